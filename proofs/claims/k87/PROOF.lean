import PyProof.Rows.All
import Wide.All
import OpenK.AllK
import Wide.FinOn
import HandS.ForMost
import HandS.Exc
import HandS.ExcOwn
import HandS.CallSlots
import HandS.Lambda
import HandS.Wide
import HandS.TupAny
import HandS.TupMul
import PyProof.ListMulRoad
import PyProof.StrOps2
import PyProof.FactsAll.tuple_2
import HandS.IsInst
import HandS.Conv
import HandS.Flow
import HandS.FStr
import HandS.SortInts
import HandS.Style
import HandS.WordsExc
import KE.DataMinMax
import KE.LtData
import HandS.WordsDict
import HandS.Walk
import HandS.Zip
import KE.GoesNew
import KE.GoesEnum
import HandS.DictComp
import HandS.SortKw
import HandS.Ends
import KE.KExcSuper
import HandS.TryMany
import HandS.ExcField
import HandS.EndTab
import KE.KNest
import HandS.RaiseMore
import PyProof.ReprHeadsTuple
import PyProof.CallFns
import HandS.GenCall
import HandS.GenList
import HandS.Codes
import KE.KExcLine
import PySem.Challenge.RW_movemarks_k87_errors_of_texts
set_option Elab.async false
set_option linter.all false
set_option maxRecDepth 100000
set_option maxHeartbeats 4000000
/-! Dn1: abstract values and heaps, their relation to the hand layer's, results. -/
namespace Dn
open PySem

/-- a value: tuples by value, mutable things by their place in the abstract heap -/
inductive A where
  | non | bl (b : Bool) | int (i : Int) | str (x : Str) | tup (xs : List A) | rol (xs : List A) | ref (n : Nat) | glo (x : Str) | ty (n : String)
abbrev Key := L2.Key
/-- a mutable thing -/
inductive AO where
  | lst (xs : List A)
  | dK (kvs : List (Key × A))
  | dT (kvs : List (List Key × A))
  | tab (P : Addr) (q : Str)
abbrev Hs := List AO
abbrev Sl := List (Option A)
/-- an exception: the name of its class, its one field -/
structure Xn where
  cls : Str
  fld : Option (Str × A)

inductive R (α : Type) where
  | ok (a : α) (h : Hs)
  | ex (x : Xn) (h : Hs)
  | no
def R.bind {α β : Type} (r : R α) (k : α → Hs → R β) : R β := match r with
  | .ok a h => k a h
  | .ex x h => .ex x h
  | .no => .no
abbrev DE := Nat → Sl → Hs → R A
abbrev DT := Nat → Sl → Hs → R Bool
abbrev DA := Nat → Sl → Hs → R (List A)
abbrev DF := Nat → List A → Hs → R A
inductive RS where
  | nx (s : Sl) (h : Hs)
  | rt (a : A) (h : Hs)
  | bk (s : Sl) (h : Hs)
  | ct (s : Sl) (h : Hs)
  | ex (x : Xn) (s : Sl) (h : Hs)
  | no
abbrev DS := Nat → Sl → Hs → RS
def R.then {α : Type} (r : R α) (s : Sl) (k : α → Hs → RS) : RS := match r with
  | .ok a h => k a h
  | .ex x h => .ex x s h
  | .no => .no
def RS.seq (r : RS) (k : Sl → Hs → RS) : RS := match r with
  | .nx s h => k s h
  | r => r

section rel
variable (K : PySem.W.Frag) (mg : Str → Option Value)
mutual
inductive RV (rho : List Addr) (H : L2.Hp) : A → L2.V → Prop
  | non : RV rho H .non .non
  | bl (b : Bool) : RV rho H (.bl b) (.bl b)
  | int (i : Int) : RV rho H (.int i) (.int i)
  | str (x : Str) : RV rho H (.str x) (.str x)
  | tup {a : Addr} {xs : List A} {vs : List L2.V} : H a = some (.tup vs) → RVs rho H xs vs → RV rho H (.tup xs) (.ref a)
  | rol {a : Addr} {xs : List A} {vs : List L2.V} : ((∃ ob, H a = some (.frz ob (.lst vs)) ∧ a ∉ rho) ∨ L2.SqL K (fun _ => none) a vs) → RVs rho H xs vs → RV rho H (.rol xs) (.ref a)
  | ref {n : Nat} {a : Addr} : rho[n]? = some a → RV rho H (.ref n) (.ref a)
  | glo {x : Str} {u : Value} {v : L2.V} : mg x = some u → L2.RelV v u → RV rho H (.glo x) v
  | ty (n : String) : RV rho H (.ty n) (.ty n)
inductive RVs (rho : List Addr) (H : L2.Hp) : List A → List L2.V → Prop
  | nil : RVs rho H [] []
  | cons {a : A} {v : L2.V} {as : List A} {vs : List L2.V} : RV rho H a v → RVs rho H as vs → RVs rho H (a :: as) (v :: vs)
end
inductive RKV {k : Type} (rho : List Addr) (H : L2.Hp) : List (k × A) → List (k × L2.V) → Prop
  | nil : RKV rho H [] []
  | cons {x : k} {a : A} {v : L2.V} {as : List (k × A)} {vs : List (k × L2.V)} : RV K mg rho H a v → RKV rho H as vs → RKV rho H ((x, a) :: as) ((x, v) :: vs)
inductive RO (rho : List Addr) (H : L2.Hp) : AO → L2.HO → Prop
  | lst {xs : List A} {vs : List L2.V} : RVs K mg rho H xs vs → RO rho H (.lst xs) (.lst vs)
  | dK {xs : List (Key × A)} {vs : List (Key × L2.V)} : RKV K mg rho H xs vs → RO rho H (.dK xs) (.dK vs)
  | dT {xs : List (List Key × A)} {vs : List (List Key × L2.V)} : RKV K mg rho H xs vs → RO rho H (.dT xs) (.dT vs)
  | tab {P : Addr} {q : Str} {ps : Array Value} : TriplesOk ps.toList → (∀ (pos : Pos) (cv : Value), codeAmong pos ps.toList = some cv → ∃ c, cv = .ref c ∧ H c = some (LamX.CodeO c q)) → RO rho H (.tab P q) (.tbl ps)
/-- the abstract heap h, its things at rho, within H -/
structure HR (rho : List Addr) (H : L2.Hp) (h : Hs) : Prop where
  len : rho.length = h.length
  nd : rho.Nodup
  get : ∀ (i : Nat) (a : Addr) (o : AO), rho[i]? = some a → h[i]? = some o → ∃ u, H a = some u ∧ RO K mg rho H o u
  tabs : ∀ (i : Nat) (P : Addr) (q : Str), h[i]? = some (.tab P q) → rho[i]? = some P
end rel
/-- from (rho, H) to (rho', H'): what is not at rho stands, the new places are new -/
structure Nx (rho : List Addr) (H : L2.Hp) (rho' : List Addr) (H' : L2.Hp) : Prop where
  pre : ∀ (i : Nat) (a : Addr), rho[i]? = some a → rho'[i]? = some a
  keep : ∀ b o, H b = some o → b ∉ rho → (∀ ps, o ≠ .tbl ps) → H' b = some o
  fresh : ∀ a, a ∈ rho' → a ∉ rho → ∀ o, H a = some o → ∃ ps, o = .tbl ps
  mem : ∀ a, a ∈ rho → a ∈ rho'

section
variable {K : PySem.W.Frag} {mg : Str → Option Value} {rho rho' rho'' : List Addr} {H H' H'' : L2.Hp} {h h' h'' : Hs}
theorem HR.ex (r : HR K mg rho H h) {a : Addr} (ha : a ∈ rho) : ∃ (i : Nat) (o : AO) (u : L2.HO), rho[i]? = some a ∧ h[i]? = some o ∧ H a = some u ∧ RO K mg rho H o u := by
  obtain ⟨i, hi, e⟩ := List.getElem_of_mem ha
  have e1 : rho[i]? = some a := by rw [List.getElem?_eq_getElem hi, e]
  have hi2 : i < h.length := by have := r.len; omega
  obtain ⟨u, hu, ro⟩ := r.get i a _ e1 (List.getElem?_eq_getElem hi2)
  exact ⟨i, _, u, e1, List.getElem?_eq_getElem hi2, hu, ro⟩
theorem HR.tup_out (r : HR K mg rho H h) {a : Addr} {xs : List L2.V} (e : L2.Rd H a (.tup xs)) : a ∉ rho := fun ha => by
  obtain ⟨i, o, u, _, _, hu, ro⟩ := r.ex ha
  rcases e with e | ⟨ob, e⟩
  · rw [e] at hu; cases hu; cases ro
  · rw [e] at hu; cases hu; cases ro
theorem HR.ext_out (r : HR K mg rho H h) {a : Addr} {f : Heap → Prop} (e : H a = some (.ext f)) : a ∉ rho := fun ha => by
  obtain ⟨i, o, u, _, _, hu, ro⟩ := r.ex ha
  rw [e] at hu; cases hu; cases ro
/-- where all that is not at rho stands -/
theorem Nx.of (pre : ∀ (i : Nat) (a : Addr), rho[i]? = some a → rho'[i]? = some a) (keep : ∀ b o, H b = some o → b ∉ rho → H' b = some o) (fresh : ∀ a, a ∈ rho' → a ∉ rho → H a = none) (mem : ∀ a, a ∈ rho → a ∈ rho') : Nx rho H rho' H' :=
  ⟨pre, fun b o e n _ => keep b o e n, fun a h1 h2 o e => (by rw [fresh a h1 h2] at e; cases e), mem⟩
theorem Nx.refl : Nx rho H rho H := ⟨fun _ _ e => e, fun _ _ e _ _ => e, fun _ h1 h2 => absurd h1 h2, fun _ h => h⟩
theorem Nx.trans (hr : HR K mg rho' H' h') (a : Nx rho H rho' H') (b : Nx rho' H' rho'' H'') : Nx rho H rho'' H'' := by
  refine ⟨fun i x e => b.pre i x (a.pre i x e), fun x o e n t => b.keep x o (a.keep x o e n t) (fun m => ?_) t, fun x m n o e => ?_, fun x m => b.mem x (a.mem x m)⟩
  · obtain ⟨ps, z⟩ := a.fresh x m n o e
    exact t ps z
  · by_cases m1 : x ∈ rho'
    · exact a.fresh x m1 n o e
    · by_cases t : ∃ ps, o = .tbl ps
      · exact t
      · exact b.fresh x m m1 o (a.keep x o e n fun ps z => t ⟨ps, z⟩)
theorem Nx.tupl (hr : HR K mg rho H h) (n : Nx rho H rho' H') {a : Addr} {xs : List L2.V} (e : H a = some (.tup xs)) : H' a = some (.tup xs) := n.keep _ _ e (hr.tup_out (.inl e)) (by intro _ z; cases z)
theorem Nx.out (n : Nx rho H rho' H') {a : Addr} {u : L2.HO} (e : H a = some u) (o : a ∉ rho) (t : ∀ ps, u ≠ .tbl ps := by intro _ z; cases z) : a ∉ rho' := fun m => by
  obtain ⟨ps, z⟩ := n.fresh a m o u e
  exact t ps z
/-- what a value's reading leans on -/
structure Stay (rho : List Addr) (H : L2.Hp) (rho' : List Addr) (H' : L2.Hp) : Prop where
  pre : ∀ (i : Nat) (a : Addr), rho[i]? = some a → rho'[i]? = some a
  tups : ∀ a xs, H a = some (.tup xs) → H' a = some (.tup xs)
  frz : ∀ a ob xs, H a = some (.frz ob (.lst xs)) → a ∉ rho → H' a = some (.frz ob (.lst xs)) ∧ a ∉ rho'
  exts : ∀ a f, H a = some (.ext f) → H' a = some (.ext f)
theorem Nx.stay (hr : HR K mg rho H h) (n : Nx rho H rho' H') : Stay rho H rho' H' :=
  ⟨n.pre, fun a xs e => n.tupl hr e, fun a ob xs e o => ⟨n.keep _ _ e o (by intro _ z; cases z), n.out e o (by intro _ z; cases z)⟩, fun a f e => n.keep _ _ e (hr.ext_out e) (by intro _ z; cases z)⟩
mutual
theorem RV.stay (n : Stay rho H rho' H') : ∀ {a : A} {v : L2.V}, RV K mg rho H a v → RV K mg rho' H' a v
  | _, _, .non => .non
  | _, _, .bl b => .bl b
  | _, _, .int i => .int i
  | _, _, .str x => .str x
  | _, _, .tup e r => .tup (n.tups _ _ e) (RVs.stay n r)
  | _, _, .rol e r => .rol (e.imp (fun ⟨ob, e1, e2⟩ => ⟨ob, n.frz _ _ _ e1 e2⟩) id) (RVs.stay n r)
  | _, _, .ref e => .ref (n.pre _ _ e)
  | _, _, .glo e r => .glo e r
  | _, _, .ty x => .ty x
theorem RVs.stay (n : Stay rho H rho' H') : ∀ {as : List A} {vs : List L2.V}, RVs K mg rho H as vs → RVs K mg rho' H' as vs
  | _, _, .nil => .nil
  | _, _, .cons a b => .cons (RV.stay n a) (RVs.stay n b)
end
theorem RKV.stay {k : Type} (n : Stay rho H rho' H') : ∀ {as : List (k × A)} {vs : List (k × L2.V)}, RKV K mg rho H as vs → RKV K mg rho' H' as vs
  | _, _, .nil => .nil
  | _, _, .cons a b => .cons (RV.stay n a) (RKV.stay n b)
theorem RO.stay (n : Stay rho H rho' H') : ∀ {a : AO} {v : L2.HO}, RO K mg rho H a v → RO K mg rho' H' a v
  | _, _, .lst r => .lst (r.stay n)
  | _, _, .dK r => .dK (r.stay n)
  | _, _, .dT r => .dT (r.stay n)
  | _, _, .tab t f => .tab t fun pos cv hc => let ⟨c, e1, e2⟩ := f pos cv hc; ⟨c, e1, n.exts _ _ e2⟩
theorem RV.mono (hr : HR K mg rho H h) (n : Nx rho H rho' H') {a : A} {v : L2.V} (r : RV K mg rho H a v) : RV K mg rho' H' a v := r.stay (n.stay hr)
theorem RVs.mono (hr : HR K mg rho H h) (n : Nx rho H rho' H') {as : List A} {vs : List L2.V} (r : RVs K mg rho H as vs) : RVs K mg rho' H' as vs := r.stay (n.stay hr)
theorem RKV.mono {k : Type} (hr : HR K mg rho H h) (n : Nx rho H rho' H') {as : List (k × A)} {vs : List (k × L2.V)} (r : RKV K mg rho H as vs) : RKV K mg rho' H' as vs := r.stay (n.stay hr)
theorem RO.mono (hr : HR K mg rho H h) (n : Nx rho H rho' H') {a : AO} {v : L2.HO} (r : RO K mg rho H a v) : RO K mg rho' H' a v := r.stay (n.stay hr)
/-- a read-only list is a list -/
theorem rol_sq {a : Addr} {vs : List L2.V} (e : (∃ ob, H a = some (.frz ob (.lst vs)) ∧ a ∉ rho) ∨ L2.SqL K (fun _ => none) a vs) : L2.SqL K H a vs := by
  rcases e with ⟨ob, e, _⟩ | e
  · exact .inl (.inr ⟨ob, e⟩)
  · rcases e with (e | ⟨_, e⟩) | e
    · cases e
    · cases e
    · exact .inr e
theorem RVs.length : ∀ {as : List A} {vs : List L2.V}, RVs K mg rho H as vs → as.length = vs.length
  | _, _, .nil => rfl
  | _, _, .cons _ b => by rw [List.length_cons, List.length_cons, RVs.length b]
theorem RVs.get : ∀ {as : List A} {vs : List L2.V}, RVs K mg rho H as vs → ∀ {i : Nat} {a : A}, as[i]? = some a → ∃ v, vs[i]? = some v ∧ RV K mg rho H a v
  | _, _, .nil, _, _, e => by simp at e
  | _, _, .cons r _, 0, _, e => by simp at e; subst e; exact ⟨_, rfl, r⟩
  | _, _, .cons _ t, i + 1, a, e => by
    obtain ⟨v, h1, h2⟩ := RVs.get t (i := i) (a := a) (by simpa using e)
    exact ⟨v, by simpa using h1, h2⟩
theorem RVs.set {a : A} {v : L2.V} (r : RV K mg rho H a v) : ∀ {as : List A} {vs : List L2.V} (i : Nat), RVs K mg rho H as vs → RVs K mg rho H (as.set i a) (vs.set i v)
  | _, _, _, .nil => .nil
  | _, _, 0, .cons _ t => .cons r t
  | _, _, i + 1, .cons q t => .cons q (RVs.set r i t)
theorem RVs.append : ∀ {as bs : List A} {vs us : List L2.V}, RVs K mg rho H as vs → RVs K mg rho H bs us → RVs K mg rho H (as ++ bs) (vs ++ us)
  | _, _, _, _, .nil, s => s
  | _, _, _, _, .cons r t, s => .cons r (RVs.append t s)
theorem RVs.take : ∀ {as : List A} {vs : List L2.V} (n : Nat), RVs K mg rho H as vs → RVs K mg rho H (as.take n) (vs.take n)
  | _, _, 0, _ => by rw [List.take_zero, List.take_zero]; exact .nil
  | _, _, _ + 1, .nil => .nil
  | _, _, n + 1, .cons r t => .cons r (RVs.take n t)
theorem RVs.drop : ∀ {as : List A} {vs : List L2.V} (n : Nat), RVs K mg rho H as vs → RVs K mg rho H (as.drop n) (vs.drop n)
  | _, _, 0, r => r
  | _, _, _ + 1, .nil => .nil
  | _, _, n + 1, .cons _ t => RVs.drop n t
theorem RVs.erase : ∀ {as : List A} {vs : List L2.V} (n : Nat), RVs K mg rho H as vs → RVs K mg rho H (as.eraseIdx n) (vs.eraseIdx n)
  | _, _, _, .nil => .nil
  | _, _, 0, .cons _ t => t
  | _, _, n + 1, .cons r t => .cons r (RVs.erase n t)
theorem RVs.none_of {as : List A} {vs : List L2.V} (r : RVs K mg rho H as vs) {i : Nat} (e : as[i]? = none) : vs[i]? = none := by
  have h1 := r.length
  have h2 : as.length ≤ i := List.getElem?_eq_none_iff.mp e
  exact List.getElem?_eq_none_iff.mpr (by omega)
theorem RVs.ints : ∀ (ns : List Int), RVs K mg rho H (ns.map A.int) (ns.map L2.V.int)
  | [] => .nil
  | n :: ns => .cons (.int n) (RVs.ints ns)

/-! ### new things, changed things -/
/-- a new tuple -/
theorem HR.tup (hr : HR K mg rho H h) {p : Addr} {u : L2.HO} (hp : H p = none) : Nx rho H rho (L2.upd H p u) ∧ HR K mg rho (L2.upd H p u) h := by
  have n : Nx rho H rho (L2.upd H p u) := .of (fun _ _ e => e) (fun b o e _ => by rw [L2.upd_ne (L2.ne_of_none e hp)]; exact e) (fun _ h1 h2 => absurd h1 h2) fun _ h => h
  refine ⟨n, hr.len, hr.nd, fun i a o e1 e2 => ?_, hr.tabs⟩
  obtain ⟨w, hw, r⟩ := hr.get i a o e1 e2
  exact ⟨w, by rw [L2.upd_ne (L2.ne_of_none hw hp)]; exact hw, r.mono hr n⟩
theorem tabs_app (hr : HR K mg rho H h) {o : AO} (no : ∀ P q, o ≠ .tab P q) {D : Addr} {i : Nat} {P : Addr} {q : Str} (e : (h ++ [o])[i]? = some (.tab P q)) : (rho ++ [D])[i]? = some P := by
  by_cases hi : i < h.length
  · rw [List.getElem?_append_left hi] at e
    rw [List.getElem?_append_left (by rw [hr.len]; exact hi)]
    exact hr.tabs i P q e
  · have hl := (List.getElem?_eq_some_iff.mp e).1
    rw [List.length_append, List.length_singleton] at hl
    have hi' : i = h.length := by omega
    subst hi'
    rw [List.getElem?_append_right (Nat.le_refl _), Nat.sub_self] at e
    exact absurd (Option.some.inj e) (no P q)
/-- a new mutable thing -/
theorem HR.new (hr : HR K mg rho H h) {p : Addr} {u : L2.HO} {o : AO} (hp : H p = none) (ro : RO K mg rho H o u) (no : ∀ P q, o ≠ .tab P q := by intro _ _ z; cases z) :
    Nx rho H (rho ++ [p]) (L2.upd H p u) ∧ HR K mg (rho ++ [p]) (L2.upd H p u) (h ++ [o]) := by
  have np : p ∉ rho := fun m => by
    obtain ⟨_, _, w, _, _, hw, _⟩ := hr.ex m
    rw [hp] at hw; cases hw
  have n : Nx rho H (rho ++ [p]) (L2.upd H p u) := by
    refine .of (fun i a e => ?_) (fun b o e _ => by rw [L2.upd_ne (L2.ne_of_none e hp)]; exact e) (fun a h1 h2 => ?_) fun a m => List.mem_append_left _ m
    · rw [List.getElem?_append_left (List.getElem?_eq_some_iff.mp e).1]; exact e
    · rcases List.mem_append.mp h1 with z | z
      · exact absurd z h2
      · have : a = p := by simpa using z
        rw [this]; exact hp
  refine ⟨n, by rw [List.length_append, List.length_append, hr.len]; rfl, ?_, fun i a o' e1 e2 => ?_, fun i P q e => tabs_app hr no e⟩
  · rw [List.nodup_append]
    refine ⟨hr.nd, List.pairwise_singleton _ _, fun a ha b hb e => ?_⟩
    have : b = p := by simpa using hb
    exact np (by rw [← this, ← e]; exact ha)
  · by_cases hi : i < rho.length
    · rw [List.getElem?_append_left hi] at e1
      rw [List.getElem?_append_left (by rw [← hr.len]; exact hi)] at e2
      obtain ⟨w, hw, r⟩ := hr.get i a o' e1 e2
      exact ⟨w, by rw [L2.upd_ne (L2.ne_of_none hw hp)]; exact hw, r.mono hr n⟩
    · have hl := (List.getElem?_eq_some_iff.mp e1).1
      rw [List.length_append, List.length_singleton] at hl
      have hi' : i = rho.length := by omega
      subst hi'
      rw [List.getElem?_append_right (Nat.le_refl _), Nat.sub_self] at e1
      have ea : p = a := by simpa using e1
      subst ea
      rw [hr.len, List.getElem?_append_right (Nat.le_refl _), Nat.sub_self] at e2
      have eo : o = o' := by simpa using e2
      subst eo
      exact ⟨u, L2.upd_same, ro.mono hr n⟩
/-- the thing at i changed -/
theorem HR.set (hr : HR K mg rho H h) {i : Nat} {p : Addr} {u : L2.HO} {o : AO} (hi : rho[i]? = some p) (ro : RO K mg rho H o u) (no : ∀ P q, o ≠ .tab P q := by intro _ _ z; cases z) :
    Nx rho H rho (L2.upd H p u) ∧ HR K mg rho (L2.upd H p u) (h.set i o) := by
  have mp : p ∈ rho := List.mem_of_getElem? hi
  have n : Nx rho H rho (L2.upd H p u) := .of (fun _ _ e => e) (fun b o e nb => by rw [L2.upd_ne (fun z => nb (by rw [z]; exact mp))]; exact e) (fun _ h1 h2 => absurd h1 h2) fun _ h => h
  refine ⟨n, by rw [List.length_set]; exact hr.len, hr.nd, fun j a o' e1 e2 => ?_, fun j P q e => by
    by_cases hj : j = i
    · subst hj
      have hl : j < h.length := by have := (List.getElem?_eq_some_iff.mp hi).1; have := hr.len; omega
      rw [List.getElem?_set_self hl] at e
      exact absurd (Option.some.inj e) (no P q)
    · rw [List.getElem?_set_ne (Ne.symm hj)] at e
      exact hr.tabs j P q e⟩
  by_cases hj : j = i
  · subst hj
    rw [hi] at e1
    have ea : p = a := by simpa using e1
    subst ea
    have hl : j < h.length := by have := (List.getElem?_eq_some_iff.mp hi).1; have := hr.len; omega
    rw [List.getElem?_set_self hl] at e2
    have eo : o = o' := by simpa using e2
    subst eo
    exact ⟨u, L2.upd_same, ro.mono hr n⟩
  · rw [List.getElem?_set_ne (Ne.symm hj)] at e2
    obtain ⟨w, hw, r⟩ := hr.get j a o' e1 e2
    refine ⟨w, ?_, r.mono hr n⟩
    rw [L2.upd_ne]
    · exact hw
    · intro z
      subst z
      exact hj (by
        obtain ⟨l1, q1⟩ := List.getElem?_eq_some_iff.mp e1
        obtain ⟨l2, q2⟩ := List.getElem?_eq_some_iff.mp hi
        exact (List.getElem_inj hr.nd).mp (q1.trans q2.symm))
/-- a list beside the heap (a comprehension's own) is taken into it -/
theorem HR.adopt (hr : HR K mg rho H h) {D : Addr} {xs : List A} {vs : List L2.V} (hD : D ∉ rho) (e : H D = some (.lst vs)) (r : RVs K mg rho H xs vs) : HR K mg (rho ++ [D]) H (h ++ [.lst xs]) := by
  have st : Stay rho H (rho ++ [D]) H := by
    refine ⟨fun i a q => ?_, fun _ _ q => q, fun a ob xs q o => ⟨q, fun m => ?_⟩, fun _ _ q => q⟩
    · rw [List.getElem?_append_left (List.getElem?_eq_some_iff.mp q).1]; exact q
    · rcases List.mem_append.mp m with z | z
      · exact o z
      · have : a = D := by simpa using z
        rw [this, e] at q; cases q
  refine ⟨by rw [List.length_append, List.length_append, hr.len]; rfl, ?_, fun i a o e1 e2 => ?_, fun i P q e => tabs_app hr (by intro _ _ z; cases z) e⟩
  · rw [List.nodup_append]
    refine ⟨hr.nd, List.pairwise_singleton _ _, fun a ha b hb q => ?_⟩
    have : b = D := by simpa using hb
    exact hD (by rw [← this, ← q]; exact ha)
  · by_cases hi : i < rho.length
    · rw [List.getElem?_append_left hi] at e1
      rw [List.getElem?_append_left (by rw [← hr.len]; exact hi)] at e2
      obtain ⟨w, hw, r⟩ := hr.get i a o e1 e2
      exact ⟨w, hw, r.stay st⟩
    · have hl := (List.getElem?_eq_some_iff.mp e1).1
      rw [List.length_append, List.length_singleton] at hl
      have hi' : i = rho.length := by omega
      subst hi'
      rw [List.getElem?_append_right (Nat.le_refl _), Nat.sub_self] at e1
      have ea : D = a := by simpa using e1
      subst ea
      rw [hr.len, List.getElem?_append_right (Nat.le_refl _), Nat.sub_self] at e2
      have eo : AO.lst xs = o := by simpa using e2
      subst eo
      exact ⟨_, e, .lst (r.stay st)⟩
/-- .. is changed -/
theorem HR.side (hr : HR K mg rho H h) {D : Addr} {vs us : List L2.V} (hD : D ∉ rho) (e : H D = some (.lst vs)) : Stay rho H rho (L2.upd H D (.lst us)) ∧ HR K mg rho (L2.upd H D (.lst us)) h := by
  have st : Stay rho H rho (L2.upd H D (.lst us)) := by
    refine ⟨fun _ _ q => q, fun a xs q => ?_, fun a ob xs q o => ⟨?_, o⟩, fun a f q => ?_⟩
    · rw [L2.upd_ne (fun z => by rw [z, e] at q; cases q)]; exact q
    · rw [L2.upd_ne (fun z => by rw [z, e] at q; cases q)]; exact q
    · rw [L2.upd_ne (fun z => by rw [z, e] at q; cases q)]; exact q
  refine ⟨st, hr.len, hr.nd, fun i a o e1 e2 => ?_, hr.tabs⟩
  obtain ⟨w, hw, r⟩ := hr.get i a o e1 e2
  exact ⟨w, by rw [L2.upd_ne (fun z => hD (by rw [← z]; exact List.mem_of_getElem? e1))]; exact hw, r.stay st⟩
end
end Dn

set_option maxHeartbeats 4000000
/-! Dn2: what follows a result; the judgements; names, constants, argument lists, blocks, small statements. -/
namespace Dn
open PySem
open L2 (PE PT PA PS PSs PG PGs PI Cx WX Takes HO Hp VK)

section
variable (K : PySem.W.Frag) (mg : Str → Option Value)
/-- the slots s, read off the hand layer's -/
structure SlR (rho : List Addr) (H : Hp) (s : Sl) (sg : L2.St) : Prop where
  len : s.length = sg.length
  get : ∀ (i : Nat) (a : A), s[i]? = some (some a) → ∃ v, sg[i]? = some (some v) ∧ RV K mg rho H a v
/-- an exception -/
structure XR (rho : List Addr) (H : Hp) (x : Xn) (c : Value) (d : Option Addr) : Prop where
  cls : ∃ C : Addr, c = .ref C ∧ mg x.cls = some (.ref C)
  none : x.fld = .none → d = .none
  some : ∀ f a, x.fld = .some (f, a) → ∃ dd v, d = .some dd ∧ H dd = .some (.xd [(f, v)]) ∧ dd ∉ rho ∧ RV K mg rho H a v
def Post {α β : Type} (rel : List Addr → Hp → α → β → Prop) (rho : List Addr) (H : Hp) (W : Value → Option Addr → Hp → Prop) (Q : β → Hp → Prop) : R α → Prop
  | .ok a h => ∀ b rho' H', Nx rho H rho' H' → HR K mg rho' H' h → rel rho' H' a b → Q b H'
  | .ex x h => ∀ c d rho' H', Nx rho H rho' H' → HR K mg rho' H' h → XR K mg rho' H' x c d → W c d H'
  | .no => False
abbrev PostV (rho : List Addr) (H : Hp) (W : Value → Option Addr → Hp → Prop) (Q : VK) (r : R A) : Prop := Post K mg (RV K mg) rho H W Q r
abbrev PostB (rho : List Addr) (H : Hp) (W : Value → Option Addr → Hp → Prop) (Q : Bool → Hp → Prop) (r : R Bool) : Prop := Post K mg (fun _ _ a b => a = b) rho H W Q r
abbrev PostL (rho : List Addr) (H : Hp) (W : Value → Option Addr → Hp → Prop) (Q : List L2.V → Hp → Prop) (r : R (List A)) : Prop := Post K mg (RVs K mg) rho H W Q r
def PostS (rho : List Addr) (H : Hp) (W : WX) (D : L2.Ends) : RS → Prop
  | .nx s h => ∀ sg rho' H', Nx rho H rho' H' → HR K mg rho' H' h → SlR K mg rho' H' s sg → D.nx sg H'
  | .bk s h => ∀ sg rho' H', Nx rho H rho' H' → HR K mg rho' H' h → SlR K mg rho' H' s sg → D.bk sg H'
  | .ct s h => ∀ sg rho' H', Nx rho H rho' H' → HR K mg rho' H' h → SlR K mg rho' H' s sg → D.ct sg H'
  | .rt a h => ∀ v rho' H', Nx rho H rho' H' → HR K mg rho' H' h → RV K mg rho' H' a v → D.rt v H'
  | .ex x s h => ∀ c d sg rho' H', Nx rho H rho' H' → HR K mg rho' H' h → SlR K mg rho' H' s sg → XR K mg rho' H' x c d → W c d sg H'
  | .no => False
def tE (W : WX) (f : DE) : L2.TE := fun sg H Q => ∃ n rho s h, HR K mg rho H h ∧ SlR K mg rho H s sg ∧ PostV K mg rho H (fun c d H' => W c d sg H') Q (f n s h)
def tT (W : WX) (f : DT) : L2.TT := fun sg H Q => ∃ n rho s h, HR K mg rho H h ∧ SlR K mg rho H s sg ∧ PostB K mg rho H (fun c d H' => W c d sg H') Q (f n s h)
def tA (W : WX) (f : DA) : L2.TA := fun sg H Q => ∃ n rho s h, HR K mg rho H h ∧ SlR K mg rho H s sg ∧ PostL K mg rho H (fun c d H' => W c d sg H') Q (f n s h)
def tS (W : WX) (f : DS) : L2.TS := fun D sg H => ∃ n rho s h, HR K mg rho H h ∧ SlR K mg rho H s sg ∧ PostS K mg rho H W D (f n s h)
end
abbrev PEd (X : Cx) (W : WX) (e : Expr) (f : DE) : Prop := PE X e (tE X.K X.mg W f)
abbrev PTd (X : Cx) (W : WX) (e : Expr) (f : DT) : Prop := PT X e (tT X.K X.mg W f)
abbrev PAd (X : Cx) (W : WX) (es : List Expr) (f : DA) : Prop := PA X es (tA X.K X.mg W f)
abbrev PSd (X : Cx) (W : WX) (st : Stmt) (f : DS) : Prop := PS X st (tS X.K X.mg W f)
abbrev PBd (X : Cx) (W : WX) (st : List Stmt) (f : DS) : Prop := PSs X st (tS X.K X.mg W f)

section
variable {K : PySem.W.Frag} {mg : Str → Option Value} {rho rho' : List Addr} {H H' : Hp} {h h' : Hs} {s : Sl} {sg : L2.St}
theorem SlR.mono (hr : HR K mg rho H h) (n : Nx rho H rho' H') (l : SlR K mg rho H s sg) : SlR K mg rho' H' s sg :=
  ⟨l.len, fun i a e => let ⟨v, e1, r⟩ := l.get i a e; ⟨v, e1, r.mono hr n⟩⟩
theorem SlR.set (l : SlR K mg rho H s sg) {a : A} {v : L2.V} (r : RV K mg rho H a v) (i : Nat) : SlR K mg rho H (s.set i (some a)) (sg.set i (some v)) := by
  refine ⟨by rw [List.length_set, List.length_set]; exact l.len, fun j b e => ?_⟩
  by_cases hj : j = i
  · subst hj
    by_cases hl : j < s.length
    · rw [List.getElem?_set_self hl] at e
      have e' : a = b := by simpa using e
      subst e'
      exact ⟨v, List.getElem?_set_self (by rw [← l.len]; exact hl), r⟩
    · rw [List.getElem?_eq_none (by simpa using hl)] at e; cases e
  · rw [List.getElem?_set_ne (Ne.symm hj)] at e
    rw [List.getElem?_set_ne (Ne.symm hj)]
    exact l.get j b e
theorem XR.mono (hr : HR K mg rho H h) (n : Nx rho H rho' H') {x : Xn} {c : Value} {d : Option Addr} (r : XR K mg rho H x c d) : XR K mg rho' H' x c d := by
  refine ⟨r.cls, r.none, fun f a e => ?_⟩
  obtain ⟨dd, v, e1, e2, e3, e4⟩ := r.some f a e
  exact ⟨dd, v, e1, n.keep _ _ e2 e3 (by intro _ z; cases z), n.out e2 e3 (by intro _ z; cases z), e4.mono hr n⟩
theorem Post.mono {α β : Type} {rel : List Addr → Hp → α → β → Prop} {W W' : Value → Option Addr → Hp → Prop} {Q Q' : β → Hp → Prop} (hr' : HR K mg rho' H' h') (n : Nx rho H rho' H') {r : R α} (p : Post K mg rel rho H W Q r)
    (hQ : ∀ b H, Q b H → Q' b H) (hW : ∀ c d H, W c d H → W' c d H) : Post K mg rel rho' H' W' Q' r := by
  cases r with
  | ok a h => exact fun b rho2 H2 n2 hr2 r2 => hQ _ _ (p b rho2 H2 (n.trans hr' n2) hr2 r2)
  | ex x h => exact fun c d rho2 H2 n2 hr2 r2 => hW _ _ _ (p c d rho2 H2 (n.trans hr' n2) hr2 r2)
  | no => exact p
/-- the first part of two -/
theorem Post.bind {α β α' β' : Type} {rel : List Addr → Hp → α → β → Prop} {rel' : List Addr → Hp → α' → β' → Prop} {W : Value → Option Addr → Hp → Prop} {Q : β → Hp → Prop} {Q' : β' → Hp → Prop} {r : R α'} {k : α' → Hs → R α}
    (p : Post K mg rel rho H W Q (r.bind k)) (c : ∀ a h1 b rho1 H1, Nx rho H rho1 H1 → HR K mg rho1 H1 h1 → rel' rho1 H1 a b → Post K mg rel rho1 H1 W Q (k a h1) → Q' b H1) : Post K mg rel' rho H W Q' r := by
  cases r with
  | ok a h1 => exact fun b rho1 H1 n1 hr1 r1 => c a h1 b rho1 H1 n1 hr1 r1 (Post.mono hr1 n1 (show Post K mg rel rho H W Q (k a h1) from p) (fun _ _ q => q) fun _ _ _ q => q)
  | ex x h1 => exact p
  | no => exact p
/-- .. with what the first part gave -/
theorem Post.bindE {α β α' β' : Type} {rel : List Addr → Hp → α → β → Prop} {rel' : List Addr → Hp → α' → β' → Prop} {W : Value → Option Addr → Hp → Prop} {Q : β → Hp → Prop} {Q' : β' → Hp → Prop} {r : R α'} {k : α' → Hs → R α}
    (p : Post K mg rel rho H W Q (r.bind k)) (c : ∀ a h1 b rho1 H1, r = .ok a h1 → Nx rho H rho1 H1 → HR K mg rho1 H1 h1 → rel' rho1 H1 a b → Post K mg rel rho1 H1 W Q (k a h1) → Q' b H1) : Post K mg rel' rho H W Q' r := by
  cases r with
  | ok a h1 => exact fun b rho1 H1 n1 hr1 r1 => c a h1 b rho1 H1 rfl n1 hr1 r1 (Post.mono hr1 n1 (show Post K mg rel rho H W Q (k a h1) from p) (fun _ _ q => q) fun _ _ _ q => q)
  | ex x h1 => exact p
  | no => exact p
theorem PostS.mono {W : WX} {D : L2.Ends} (hr' : HR K mg rho' H' h') (n : Nx rho H rho' H') {r : RS} (p : PostS K mg rho H W D r) : PostS K mg rho' H' W D r := by
  cases r with
  | nx s h => exact fun g rho2 H2 n2 => p g rho2 H2 (n.trans hr' n2)
  | bk s h => exact fun g rho2 H2 n2 => p g rho2 H2 (n.trans hr' n2)
  | ct s h => exact fun g rho2 H2 n2 => p g rho2 H2 (n.trans hr' n2)
  | rt a h => exact fun v rho2 H2 n2 => p v rho2 H2 (n.trans hr' n2)
  | ex x s h => exact fun c d g rho2 H2 n2 => p c d g rho2 H2 (n.trans hr' n2)
  | no => exact p
/-- an expression, then a statement's work -/
theorem PostS.then {α β : Type} {rel : List Addr → Hp → α → β → Prop} {W : WX} {D : L2.Ends} {Q' : β → Hp → Prop} {r : R α} {k : α → Hs → RS} (hr : HR K mg rho H h) (l : SlR K mg rho H s sg) (p : PostS K mg rho H W D (r.then s k))
    (c : ∀ a h1 b rho1 H1, Nx rho H rho1 H1 → HR K mg rho1 H1 h1 → rel rho1 H1 a b → PostS K mg rho1 H1 W D (k a h1) → Q' b H1) : Post K mg rel rho H (fun c d H' => W c d sg H') Q' r := by
  cases r with
  | ok a h1 => exact fun b rho1 H1 n1 hr1 r1 => c a h1 b rho1 H1 n1 hr1 r1 (PostS.mono hr1 n1 (show PostS K mg rho H W D (k a h1) from p))
  | ex x h1 => exact fun c d rho1 H1 n1 hr1 r1 => (show PostS K mg rho H W D (.ex x s h1) from p) c d sg rho1 H1 n1 hr1 (l.mono hr n1) r1
  | no => exact p
/-- two statements -/
theorem PostS.seq {W : WX} {D : L2.Ends} {r : RS} {k : Sl → Hs → RS} {U : L2.St → Hp → Prop} (p : PostS K mg rho H W D (r.seq k))
    (c : ∀ s1 h1 sg1 rho1 H1, Nx rho H rho1 H1 → HR K mg rho1 H1 h1 → SlR K mg rho1 H1 s1 sg1 → PostS K mg rho1 H1 W D (k s1 h1) → U sg1 H1) : PostS K mg rho H W { D with nx := U } r := by
  cases r with
  | nx s1 h1 => exact fun g rho1 H1 n1 hr1 l1 => c s1 h1 g rho1 H1 n1 hr1 l1 (PostS.mono hr1 n1 (show PostS K mg rho H W D (k s1 h1) from p))
  | bk s h => exact p
  | ct s h => exact p
  | rt a h => exact p
  | ex x s h => exact p
  | no => exact p
end

/-! ### weakening of readings -/
section
variable {X : Cx} {W : WX} {e : Expr} {es : List Expr} {st : Stmt} {sts : List Stmt}
theorem pe_weak {t t' : L2.TE} (h : PE X e t) (m : ∀ sg H Q, t' sg H Q → t sg H Q) : PE X e t' := ⟨fun pins s sg H Q I w => h.run pins s sg H Q I (m sg H Q w)⟩
theorem pt_weak {t t' : L2.TT} (h : PT X e t) (m : ∀ sg H Q, t' sg H Q → t sg H Q) : PT X e t' := ⟨fun pins s sg H Q I w => h.run pins s sg H Q I (m sg H Q w)⟩
theorem pw_weak {t t' : L2.TT} (h : L2.PW X e t) (m : ∀ sg H Q, t' sg H Q → t sg H Q) : L2.PW X e t' := ⟨fun whole pins s sg H Q I w => h.run whole pins s sg H Q I (m sg H Q w)⟩
theorem pa_weak {t t' : L2.TA} (h : PA X es t) (m : ∀ sg H Q, t' sg H Q → t sg H Q) : PA X es t' := ⟨fun pos pins s sg H Q I w => h.run pos pins s sg H Q I (m sg H Q w)⟩
theorem ps_weak {t t' : L2.TS} (h : PS X st t) (m : ∀ D sg H, t' D sg H → t D sg H) : PS X st t' := ⟨fun pins s sg H D I w => h.run pins s sg H D I (m D sg H w)⟩
theorem pb_weak {t t' : L2.TS} (h : PSs X sts t) (m : ∀ D sg H, t' D sg H → t D sg H) : PSs X sts t' := ⟨fun pins s sg H D I w => h.run pins s sg H D I (m D sg H w)⟩
/-- two rules for one expression -/
theorem pe_or {t t' : L2.TE} (h : PE X e t) (h' : PE X e t') : PE X e (fun sg H Q => t sg H Q ∨ t' sg H Q) := ⟨fun pins s sg H Q I w => w.elim (h.run pins s sg H Q I) (h'.run pins s sg H Q I)⟩

/-! ### names, constants -/
def varD (i : Nat) : DE := fun _ s h => match s[i]? with
  | some (some a) => .ok a h
  | _ => .no
def conD (a : A) : DE := fun _ _ h => .ok a h
theorem d_var (i : Nat) {x : Str} {pos : Pos} (hN : X.N[i]? = some x := by rfl) (hv : L2.Vis X.env.scope x := by first | exact Or.inl rfl | exact Or.inr (Or.inl rfl) | exact Or.inr (Or.inr rfl)) (hd : (x == ("__debug__" : Str)) = false := by decide)
    (hcd : (x == ("__classdict__" : Str)) = false := by decide) : PEd X W (.Name x pos) (varD i) := by
  refine pe_weak (L2.pv i hN hv hd hcd) fun sg H Q w => ?_
  obtain ⟨n, rho, s, h, hr, l, p⟩ := w
  unfold varD at p
  split at p
  · rename_i a e
    obtain ⟨v, e1, r⟩ := l.get i a e
    exact ⟨v, e1, p v rho H Nx.refl hr r⟩
  · exact p.elim
theorem d_con {a : A} {v : L2.V} (h : PE X e (L2.tC v)) (r : ∀ rho H, RV X.K X.mg rho H a v) : PEd X W e (conD a) := by
  refine pe_weak h fun sg H Q w => ?_
  obtain ⟨n, rho, s, hh, hr, l, p⟩ := w
  exact p v rho H Nx.refl hr (r rho H)
theorem d_int {i j pos} : PEd X W (.Constant (.int i) j pos) (conD (.int i)) := d_con L2.pe_int fun _ _ => .int i
theorem d_bl {b j pos} : PEd X W (.Constant (.bool b) j pos) (conD (.bl b)) := d_con L2.pe_bl fun _ _ => .bl b
theorem d_non {j pos} : PEd X W (.Constant .none j pos) (conD .non) := d_con L2.pe_non fun _ _ => .non
theorem d_str {x j pos} : PEd X W (.Constant (.str x) j pos) (conD (.str x)) := d_con L2.pe_str fun _ _ => .str x
/-- a module's constant: an int, a text -/
theorem d_gint {x : Str} {i : Int} {pos : Pos} (hg : L2.Gl X x) (hm : ∃ t, X.mg x = some (.int i t)) (hd : (x == ("__debug__" : Str)) = false := by decide) : PEd X W (.Name x pos) (conD (.int i)) :=
  let ⟨t, e⟩ := hm; d_con (L2.pe_glob hg e (show L2.RelV (.int i) (.int i t) from ⟨t, rfl⟩) hd) fun _ _ => .int i
theorem d_gstr {x y : Str} {pos : Pos} (hg : L2.Gl X x) (hm : ∃ t, X.mg x = some (.str y t)) (hd : (x == ("__debug__" : Str)) = false := by decide) : PEd X W (.Name x pos) (conD (.str y)) :=
  let ⟨t, e⟩ := hm; d_con (L2.pe_glob hg e (show L2.RelV (.str y) (.str y t) from ⟨t, rfl⟩) hd) fun _ _ => .str y
/-- a module's def or class, as a value -/
theorem d_glob {x : Str} {a : Addr} {pos : Pos} (hg : L2.Gl X x) (hm : X.mg x = some (.ref a)) (hd : (x == ("__debug__" : Str)) = false := by decide) : PEd X W (.Name x pos) (conD (.glo x)) :=
  d_con (L2.pe_glob hg hm (show L2.RelV (.ref a) (.ref a) from rfl) hd) fun _ _ => .glo hm rfl

/-! ### argument lists -/
def nilD : DA := fun _ _ h => .ok [] h
def consD (f : DE) (g : DA) : DA := fun n s h => (f n s h).bind fun a h1 => (g n s h1).bind fun as h2 => .ok (a :: as) h2
theorem d_nil : PAd X W [] nilD := by
  refine pa_weak L2.pa_nil fun sg H Q w => ?_
  obtain ⟨n, rho, s, hh, hr, l, p⟩ := w
  exact p [] rho H Nx.refl hr .nil
theorem d_cons {f : DE} {g : DA} (hf : PEd X W e f) (hg : PAd X W es g) (hs : starEach (e :: es) X.env = (false, eval e X.env) :: starEach es X.env := by rfl) : PAd X W (e :: es) (consD f g) := by
  refine pa_weak (L2.pa_cons hf hg hs) fun sg H Q w => ?_
  obtain ⟨n, rho, s, h, hr, l, p⟩ := w
  refine ⟨n, rho, s, h, hr, l, Post.bind p fun a h1 v rho1 H1 n1 hr1 r1 p1 => ?_⟩
  refine ⟨n, rho1, s, h1, hr1, l.mono hr n1, Post.bind p1 fun as h2 vs rho2 H2 n2 hr2 r2 p2 => ?_⟩
  exact p2 (v :: vs) rho2 H2 Nx.refl hr2 (.cons (r1.mono hr1 n2) r2)

/-! ### blocks, small statements -/
def seqD (f g : DS) : DS := fun n s h => (f n s h).seq fun s1 h1 => g n s1 h1
def nextD : DS := fun _ s h => .nx s h
def brkD : DS := fun _ s h => .bk s h
def contD : DS := fun _ s h => .ct s h
def retD (f : DE) : DS := fun n s h => (f n s h).then s fun a h1 => .rt a h1
def retND : DS := fun _ _ h => .rt .non h
def dropD (f : DE) : DS := fun n s h => (f n s h).then s fun _ h1 => .nx s h1
def ifD (c : DT) (f g : DS) : DS := fun n s h => (c n s h).then s fun b h1 => if b then f n s h1 else g n s h1
def setD (i : Nat) (f : DE) : DS := fun n s h => (f n s h).then s fun a h1 => .nx (s.set i (some a)) h1
theorem b_nil : PBd X W [] nextD := by
  refine pb_weak L2.pss_nil fun D sg H w => ?_
  obtain ⟨n, rho, s, h, hr, l, p⟩ := w
  exact p sg rho H Nx.refl hr l
theorem b_cons {f g : DS} (hf : PSd X W st f) (hg : PBd X W sts g) : PBd X W (st :: sts) (seqD f g) := by
  refine pb_weak (L2.pss_cons hf hg) fun D sg H w => ?_
  obtain ⟨n, rho, s, h, hr, l, p⟩ := w
  exact ⟨n, rho, s, h, hr, l, PostS.seq p fun s1 h1 sg1 rho1 H1 n1 hr1 l1 p1 => ⟨n, rho1, s1, h1, hr1, l1, p1⟩⟩
theorem b_one {f : DS} (hf : PSd X W st f) : PBd X W [st] f := L2.pss_one hf
theorem s_pass {pos : Pos} : PSd X W (.Pass pos) nextD := by
  refine ps_weak L2.ps_pass fun D sg H w => ?_
  obtain ⟨n, rho, s, h, hr, l, p⟩ := w
  exact p sg rho H Nx.refl hr l
theorem s_brk {pos : Pos} : PSd X W (.Break pos) brkD := by
  refine ps_weak L2.ps_break fun D sg H w => ?_
  obtain ⟨n, rho, s, h, hr, l, p⟩ := w
  exact p sg rho H Nx.refl hr l
theorem s_cont {pos : Pos} : PSd X W (.Continue pos) contD := by
  refine ps_weak L2.ps_continue fun D sg H w => ?_
  obtain ⟨n, rho, s, h, hr, l, p⟩ := w
  exact p sg rho H Nx.refl hr l
theorem s_ret {pos : Pos} {f : DE} (hf : PEd X W e f) : PSd X W (.Return (some e) pos) (retD f) := by
  refine ps_weak (L2.ps_ret hf) fun D sg H w => ?_
  obtain ⟨n, rho, s, h, hr, l, p⟩ := w
  exact ⟨n, rho, s, h, hr, l, PostS.then hr l p fun a h1 v rho1 H1 n1 hr1 r1 p1 => p1 v rho1 H1 Nx.refl hr1 r1⟩
theorem s_retN {pos : Pos} : PSd X W (.Return none pos) retND := by
  refine ps_weak L2.ps_retN fun D sg H w => ?_
  obtain ⟨n, rho, s, h, hr, l, p⟩ := w
  exact p .non rho H Nx.refl hr .non
theorem s_expr {pos : Pos} {f : DE} (hf : PEd X W e f) (hs : swapsWith e none pos.line X.env = pure false := by rfl) : PSd X W (.Expr e pos) (dropD f) := by
  refine ps_weak (L2.ps_expr hf hs) fun D sg H w => ?_
  obtain ⟨n, rho, s, h, hr, l, p⟩ := w
  exact ⟨n, rho, s, h, hr, l, PostS.then hr l p fun a h1 v rho1 H1 n1 hr1 r1 p1 => p1 sg rho1 H1 Nx.refl hr1 (l.mono hr n1)⟩
theorem s_if {c : Expr} {a b : List Stmt} {pos : Pos} {fc : DT} {f g : DS} (hc : PTd X W c fc) (ha : PBd X W a f) (hb : PBd X W b g) : PSd X W (.If c a b pos) (ifD fc f g) := by
  refine ps_weak (L2.ps_if hc ha hb) fun D sg H w => ?_
  obtain ⟨n, rho, s, h, hr, l, p⟩ := w
  refine ⟨n, rho, s, h, hr, l, PostS.then hr l p fun b h1 b' rho1 H1 n1 hr1 r1 p1 => ?_⟩
  subst r1
  cases b with
  | true => exact ⟨n, rho1, s, h1, hr1, l.mono hr n1, p1⟩
  | false => exact ⟨n, rho1, s, h1, hr1, l.mono hr n1, p1⟩
theorem s_set {i : Nat} {x : Str} {pos pos' : Pos} {f : DE} (hN : X.N.Nodup) (hi : X.N[i]? = some x) (hx : L2.Loc X.env.scope x) (he : PEd X W e f) (hs : swapsWith e (some (.Name x pos')) pos.line X.env = pure false := by rfl)
    (hf : X.fn x = true ∨ X.env.scope.names.lookup x = some .local := by first | exact .inl rfl | exact .inr rfl | assumption) : PSd X W (.Assign [.Name x pos'] e pos) (setD i f) := by
  refine ps_weak (L2.ps_set hN hi hx he hs hf) fun D sg H w => ?_
  obtain ⟨n, rho, s, h, hr, l, p⟩ := w
  exact ⟨n, rho, s, h, hr, l, PostS.then hr l p fun a h1 v rho1 H1 n1 hr1 r1 p1 => p1 _ rho1 H1 Nx.refl hr1 ((l.mono hr n1).set r1 i)⟩
/-- code that is never reached -/
def neverD : DS := fun _ _ _ => .no
theorem s_never : PSd X W st neverD := by
  refine ps_weak L2.ps_never fun D sg H w => ?_
  obtain ⟨n, rho, s, h, hr, l, p⟩ := w
  exact p.elim
end
end Dn

set_option maxHeartbeats 4000000
/-! Dn3: operators, comparisons, tests. -/
namespace Dn
open PySem
open L2 (PE PT PA PS PSs PG PGs PI Cx WX Takes HO Hp VK)

abbrev O2 := A → A → Hs → R A
section
variable (K : PySem.W.Frag) (mg : Str → Option Value)
/-- the plain operation g tells what the hand layer's r asks -/
def Rf2 (r : L2.R2) (g : O2) : Prop := ∀ (rho : List Addr) (H : Hp) (h : Hs) (a b : A) (x y : L2.V) (W : Value → Option Addr → Hp → Prop) (Q : VK), HR K mg rho H h → RV K mg rho H a x → RV K mg rho H b y → PostV K mg rho H W Q (g a b h) → r x y H Q
def Rf1 (r : L2.V → Hp → VK → Prop) (g : A → Hs → R A) : Prop := ∀ (rho : List Addr) (H : Hp) (h : Hs) (a : A) (x : L2.V) (W : Value → Option Addr → Hp → Prop) (Q : VK), HR K mg rho H h → RV K mg rho H a x → PostV K mg rho H W Q (g a h) → r x H Q
/-- .. of an argument list -/
def RfL (r : List L2.V → Hp → VK → Prop) (g : List A → Hs → R A) : Prop := ∀ (rho : List Addr) (H : Hp) (h : Hs) (as : List A) (xs : List L2.V) (W : Value → Option Addr → Hp → Prop) (Q : VK), HR K mg rho H h → RVs K mg rho H as xs → PostV K mg rho H W Q (g as h) → r xs H Q
end

def bin2 (g : O2) (fa fb : DE) : DE := fun n s h => (fa n s h).bind fun a h1 => (fb n s h1).bind fun b h2 => g a b h2
def un1 (g : A → Hs → R A) (fa : DE) : DE := fun n s h => (fa n s h).bind fun a h1 => g a h1
/-- a value that is a bool, as a test -/
def boolR (r : R A) : R Bool := r.bind fun a h => match a with
  | .bl b => .ok b h
  | _ => .no
def testD (f : DE) : DT := fun n s h => boolR (f n s h)

section
variable {K : PySem.W.Frag} {mg : Str → Option Value} {rho : List Addr} {H : Hp} {h : Hs}
theorem Post.tb {W : Value → Option Addr → Hp → Prop} {Q : Bool → Hp → Prop} {r : R A} (p : PostB K mg rho H W Q (boolR r)) : PostV K mg rho H W (fun x H' => ∃ k, x = .bl k ∧ Q k H') r := by
  refine Post.bind p fun a h1 v rho1 H1 n1 hr1 r1 p1 => ?_
  cases a with
  | bl b => cases r1; exact ⟨b, rfl, p1 b rho1 H1 Nx.refl hr1 rfl⟩
  | _ => exact p1.elim
/-- the result is there already -/
theorem Post.here {W : Value → Option Addr → Hp → Prop} {Q : VK} {a : A} {v : L2.V} (p : PostV K mg rho H W Q (.ok a h)) (hr : HR K mg rho H h) (r : RV K mg rho H a v) : Q v H := p v rho H Nx.refl hr r
end

section
variable {X : Cx} {W : WX} {e a b c : Expr} {pos : Pos} {fa fb fc : DE} {g g' : O2} {r r' : L2.R2}
theorem tOp_of {op2 : L2.R2} (rf : Rf2 X.K X.mg op2 g) : ∀ sg H Q, tE X.K X.mg W (bin2 g fa fb) sg H Q → L2.tOp op2 (tE X.K X.mg W fa) (tE X.K X.mg W fb) sg H Q := fun sg H Q w => by
  obtain ⟨n, rho, s, h, hr, l, p⟩ := w
  refine ⟨n, rho, s, h, hr, l, Post.bind p fun x h1 v rho1 H1 n1 hr1 r1 p1 => ?_⟩
  refine ⟨n, rho1, s, h1, hr1, l.mono hr n1, Post.bind p1 fun y h2 u rho2 H2 n2 hr2 r2 p2 => ?_⟩
  exact rf rho2 H2 h2 x y v u _ Q hr2 (r1.mono hr1 n2) r2 p2
theorem d_bin {op : Operator} (ho : L2.OpR X (binaryOp op) r) (rf : Rf2 X.K X.mg r g) (ha : PEd X W a fa) (hb : PEd X W b fb) : PEd X W (.BinOp a op b pos) (bin2 g fa fb) :=
  pe_weak (L2.pe_op ho ha hb) (tOp_of rf)
theorem d_cmp {op : CmpOp} (ho : L2.OpR X (compareOp op) r) (rf : Rf2 X.K X.mg r g) (ha : PEd X W a fa) (hb : PEd X W b fb) (hm : behindInMarks op b = false) : PEd X W (.Compare a [op] [b] pos) (bin2 g fa fb) :=
  pe_weak (L2.pe_cmpR ho ha hb hm) (tOp_of rf)
theorem t_test {t : DE} (h : L2.TE) (hp : PT X e (L2.tTest h)) (hw : ∀ sg H Q, tE X.K X.mg W t sg H Q → h sg H Q) : PTd X W e (testD t) := by
  refine pt_weak hp fun sg H Q w => ?_
  obtain ⟨n, rho, s, hh, hr, l, p⟩ := w
  exact hw _ _ _ ⟨n, rho, s, hh, hr, l, Post.tb p⟩
theorem t_cmp {op : CmpOp} (ho : L2.OpR X (compareOp op) r) (rf : Rf2 X.K X.mg r g) (ha : PEd X W a fa) (hb : PEd X W b fb) (hm : behindInMarks op b = false) : PTd X W (.Compare a [op] [b] pos) (testD (bin2 g fa fb)) :=
  t_test _ (L2.pt_cmpR ho ha hb hm) (tOp_of rf)
/-- an expression that hands back a bool, as a test -/
theorem t_val (ha : PEd X W a fa) (he : ∀ whole, isTrue a X.env whole = (do let v ← whole; standAt a.pos; holding [v] (truthy v)) := by intro _; rfl) : PTd X W a (testD fa) := by
  refine pt_weak (L2.pt_val ha he) fun sg H Q w => ?_
  obtain ⟨n, rho, s, hh, hr, l, p⟩ := w
  exact ⟨n, rho, s, hh, hr, l, Post.tb p⟩
theorem d_un {op : UnaryOp} {r1 : L2.V → Hp → VK → Prop} {g1 : A → Hs → R A} (ho : L2.UnR X (unaryOp op) r1) (rf : Rf1 X.K X.mg r1 g1) (ha : PEd X W a fa) : PEd X W (.UnaryOp op a pos) (un1 g1 fa) := by
  refine pe_weak (L2.pe_un ho ha) fun sg H Q w => ?_
  obtain ⟨n, rho, s, h, hr, l, p⟩ := w
  exact ⟨n, rho, s, h, hr, l, Post.bind p fun x h1 v rho1 H1 n1 hr1 r1 p1 => rf rho1 H1 h1 x v _ Q hr1 r1 p1⟩

/-! ### tests: not, and, or; and, or, not as values; a if t else b -/
def notT (f : DT) : DT := fun n s h => (f n s h).bind fun b h1 => .ok (!b) h1
def andT (f g : DT) : DT := fun n s h => (f n s h).bind fun b h1 => if b then g n s h1 else .ok false h1
def orT (f g : DT) : DT := fun n s h => (f n s h).bind fun b h1 => if b then .ok true h1 else g n s h1
def ifE (c : DT) (f g : DE) : DE := fun n s h => (c n s h).bind fun b h1 => if b then f n s h1 else g n s h1
def blE (f : DT) : DE := fun n s h => (f n s h).bind fun b h1 => .ok (.bl b) h1
abbrev PWd (X : Cx) (W : WX) (e : Expr) (f : DT) : Prop := L2.PW X e (tT X.K X.mg W f)
variable {ta tb : DT} {rest : List Expr}
theorem t_not (ha : PTd X W a ta) : PTd X W (.UnaryOp .Not a pos) (notT ta) := by
  refine pt_weak (L2.pt_not ha) fun sg H Q w => ?_
  obtain ⟨n, rho, s, h, hr, l, p⟩ := w
  refine ⟨n, rho, s, h, hr, l, Post.bind p fun x h1 v rho1 H1 n1 hr1 r1 p1 => ?_⟩
  subst r1
  exact p1 _ rho1 H1 Nx.refl hr1 rfl
theorem w_and1 (ha : PTd X W a ta) : PWd X W (.BoolOp .And [a] pos) ta := L2.pw_and1 ha
theorem w_or1 (ha : PTd X W a ta) : PWd X W (.BoolOp .Or [a] pos) ta := L2.pw_or1 ha
theorem w_and (ha : PTd X W a ta) (hb : PWd X W (.BoolOp .And (b :: rest) pos) tb) : PWd X W (.BoolOp .And (a :: b :: rest) pos) (andT ta tb) := by
  refine pw_weak (L2.pw_and ha hb) fun sg H Q w => ?_
  obtain ⟨n, rho, s, h, hr, l, p⟩ := w
  refine ⟨n, rho, s, h, hr, l, Post.bind p fun x h1 v rho1 H1 n1 hr1 r1 p1 => ?_⟩
  subst r1
  cases x with
  | true => exact L2.iteT ⟨n, rho1, s, h1, hr1, l.mono hr n1, p1⟩
  | false => exact L2.iteF (p1 _ rho1 H1 Nx.refl hr1 rfl)
theorem w_or (ha : PTd X W a ta) (hb : PWd X W (.BoolOp .Or (b :: rest) pos) tb) : PWd X W (.BoolOp .Or (a :: b :: rest) pos) (orT ta tb) := by
  refine pw_weak (L2.pw_or ha hb) fun sg H Q w => ?_
  obtain ⟨n, rho, s, h, hr, l, p⟩ := w
  refine ⟨n, rho, s, h, hr, l, Post.bind p fun x h1 v rho1 H1 n1 hr1 r1 p1 => ?_⟩
  subst r1
  cases x with
  | true => exact L2.iteT (p1 _ rho1 H1 Nx.refl hr1 rfl)
  | false => exact L2.iteF ⟨n, rho1, s, h1, hr1, l.mono hr n1, p1⟩
theorem t_w (h : PWd X W e ta) : PTd X W e ta := h.pt
/-- .. as values, all bools -/
def andV (f g : DE) : DE := fun n s h => (f n s h).bind fun a h1 => match a with
  | .bl true => g n s h1
  | .bl false => .ok (.bl false) h1
  | _ => .no
def orV (f g : DE) : DE := fun n s h => (f n s h).bind fun a h1 => match a with
  | .bl true => .ok (.bl true) h1
  | .bl false => g n s h1
  | _ => .no
def notV (f : DE) : DE := fun n s h => (f n s h).bind fun a h1 => match a with
  | .bl b => .ok (.bl (!b)) h1
  | _ => .no
theorem d_one {op} (ha : PEd X W a fa) : PEd X W (.BoolOp op [a] pos) fa := L2.pe_one ha
theorem d_and (ha : PEd X W a fa) (hb : PEd X W (.BoolOp .And (b :: rest) pos) fb) : PEd X W (.BoolOp .And (a :: b :: rest) pos) (andV fa fb) := by
  refine pe_weak (L2.pe_and ha hb) fun sg H Q w => ?_
  obtain ⟨n, rho, s, h, hr, l, p⟩ := w
  refine ⟨n, rho, s, h, hr, l, Post.bind p fun x h1 v rho1 H1 n1 hr1 r1 p1 => ?_⟩
  cases x with
  | bl k =>
    cases r1
    cases k with
    | true => exact ⟨true, rfl, L2.iteT ⟨n, rho1, s, h1, hr1, l.mono hr n1, p1⟩⟩
    | false => exact ⟨false, rfl, L2.iteF (p1 _ rho1 H1 Nx.refl hr1 (.bl false))⟩
  | _ => exact p1.elim
theorem d_or (ha : PEd X W a fa) (hb : PEd X W (.BoolOp .Or (b :: rest) pos) fb) : PEd X W (.BoolOp .Or (a :: b :: rest) pos) (orV fa fb) := by
  refine pe_weak (L2.pe_or ha hb) fun sg H Q w => ?_
  obtain ⟨n, rho, s, h, hr, l, p⟩ := w
  refine ⟨n, rho, s, h, hr, l, Post.bind p fun x h1 v rho1 H1 n1 hr1 r1 p1 => ?_⟩
  cases x with
  | bl k =>
    cases r1
    cases k with
    | true => exact ⟨true, rfl, L2.iteT (p1 _ rho1 H1 Nx.refl hr1 (.bl true))⟩
    | false => exact ⟨false, rfl, L2.iteF ⟨n, rho1, s, h1, hr1, l.mono hr n1, p1⟩⟩
  | _ => exact p1.elim
theorem d_not (ha : PEd X W a fa) : PEd X W (.UnaryOp .Not a pos) (notV fa) := by
  refine pe_weak (L2.pe_not ha) fun sg H Q w => ?_
  obtain ⟨n, rho, s, h, hr, l, p⟩ := w
  refine ⟨n, rho, s, h, hr, l, Post.bind p fun x h1 v rho1 H1 n1 hr1 r1 p1 => ?_⟩
  cases x with
  | bl k => cases r1; exact ⟨k, rfl, p1 _ rho1 H1 Nx.refl hr1 (.bl _)⟩
  | _ => exact p1.elim
theorem d_if (hc : PTd X W c ta) (ha : PEd X W a fa) (hb : PEd X W b fb) : PEd X W (.IfExp c a b pos) (ifE ta fa fb) := by
  refine pe_weak (L2.pe_ifExp hc ha hb) fun sg H Q w => ?_
  obtain ⟨n, rho, s, h, hr, l, p⟩ := w
  refine ⟨n, rho, s, h, hr, l, Post.bind p fun x h1 v rho1 H1 n1 hr1 r1 p1 => ?_⟩
  subst r1
  cases x with
  | true => exact L2.iteT ⟨n, rho1, s, h1, hr1, l.mono hr n1, p1⟩
  | false => exact L2.iteF ⟨n, rho1, s, h1, hr1, l.mono hr n1, p1⟩
/-- a op1 b op2 c -/
def chain3 (g g' : O2) (fa fb fc : DE) : DE := fun n s h => (fa n s h).bind fun a h1 => (fb n s h1).bind fun b h2 => (g a b h2).bind fun k h3 => match k with
  | .bl true => (fc n s h3).bind fun c h4 => g' b c h4
  | .bl false => .ok (.bl false) h3
  | _ => .no
theorem tChain_of (rf : Rf2 X.K X.mg r g) (rf' : Rf2 X.K X.mg r' g') : ∀ sg H Q, tE X.K X.mg W (chain3 g g' fa fb fc) sg H Q → L2.tChain r r' (tE X.K X.mg W fa) (tE X.K X.mg W fb) (tE X.K X.mg W fc) sg H Q := fun sg H Q w => by
  obtain ⟨n, rho, s, h, hr, l, p⟩ := w
  refine ⟨n, rho, s, h, hr, l, Post.bind p fun x h1 v rho1 H1 n1 hr1 r1 p1 => ?_⟩
  refine ⟨n, rho1, s, h1, hr1, l.mono hr n1, Post.bind p1 fun y h2 u rho2 H2 n2 hr2 r2 p2 => ?_⟩
  refine rf rho2 H2 h2 x y v u (fun c d H' => W c d sg H') _ hr2 (r1.mono hr1 n2) r2 (Post.bind p2 fun k h3 z rho3 H3 n3 hr3 r3 p3 => ?_)
  cases k with
  | bl k =>
    cases r3
    cases k with
    | true =>
      refine ⟨true, rfl, L2.iteT ⟨n, rho3, s, h3, hr3, ((l.mono hr n1).mono hr1 n2).mono hr2 n3, Post.bind p3 fun c h4 cv rho4 H4 n4 hr4 r4 p4 => ?_⟩⟩
      exact rf' rho4 H4 h4 y c u cv _ Q hr4 ((r2.mono hr2 n3).mono hr3 n4) r4 p4
    | false => exact ⟨false, rfl, L2.iteF (p3 _ rho3 H3 Nx.refl hr3 (.bl false))⟩
  | _ => exact p3.elim
theorem d_chain {op op' : CmpOp} (ho : L2.OpR X (compareOp op) r) (rf : Rf2 X.K X.mg r g) (ho' : L2.OpR X (compareOp op') r') (rf' : Rf2 X.K X.mg r' g') (ha : PEd X W a fa) (hb : PEd X W b fb) (hc : PEd X W c fc)
    (hm : lastMarks [op, op'] [b, c] = false := by with_unfolding_all rfl) : PEd X W (.Compare a [op, op'] [b, c] pos) (chain3 g g' fa fb fc) := pe_weak (L2.pe_chain ho ho' ha hb hc hm) (tChain_of rf rf')
theorem t_chain {op op' : CmpOp} (ho : L2.OpR X (compareOp op) r) (rf : Rf2 X.K X.mg r g) (ho' : L2.OpR X (compareOp op') r') (rf' : Rf2 X.K X.mg r' g') (ha : PEd X W a fa) (hb : PEd X W b fb) (hc : PEd X W c fc)
    (hm : lastMarks [op, op'] [b, c] = false := by with_unfolding_all rfl) : PTd X W (.Compare a [op, op'] [b, c] pos) (testD (chain3 g g' fa fb fc)) := t_test _ (L2.pt_chain ho ho' ha hb hc hm) (tChain_of rf rf')
end

/-! ### sequences -/
def seqOf (h : Hs) : A → Option (List A)
  | .tup xs => some xs
  | .rol xs => some xs
  | .ref n => match h[n]? with
    | some (.lst xs) => some xs
    | _ => none
  | _ => none
section
variable {K : PySem.W.Frag} {mg : Str → Option Value} {rho rho' : List Addr} {H H' : Hp} {h h' : Hs}
theorem HR.lst (hr : HR K mg rho H h) {n : Nat} {p : Addr} {xs : List A} (hp : rho[n]? = some p) (e : h[n]? = some (.lst xs)) : ∃ vs, H p = some (.lst vs) ∧ RVs K mg rho H xs vs := by
  obtain ⟨u, hu, ro⟩ := hr.get n p _ hp e
  cases ro with
  | lst r => exact ⟨_, hu, r⟩
theorem HR.dK (hr : HR K mg rho H h) {n : Nat} {p : Addr} {xs : List (Key × A)} (hp : rho[n]? = some p) (e : h[n]? = some (.dK xs)) : ∃ vs, H p = some (.dK vs) ∧ RKV K mg rho H xs vs := by
  obtain ⟨u, hu, ro⟩ := hr.get n p _ hp e
  cases ro with
  | dK r => exact ⟨_, hu, r⟩
theorem HR.dT (hr : HR K mg rho H h) {n : Nat} {p : Addr} {xs : List (List Key × A)} (hp : rho[n]? = some p) (e : h[n]? = some (.dT xs)) : ∃ vs, H p = some (.dT vs) ∧ RKV K mg rho H xs vs := by
  obtain ⟨u, hu, ro⟩ := hr.get n p _ hp e
  cases ro with
  | dT r => exact ⟨_, hu, r⟩
/-- a sequence, seen from the hand layer -/
theorem seqOf_get (hr : HR K mg rho H h) {a : A} {xs : List A} (e : seqOf h a = some xs) {v : L2.V} (r : RV K mg rho H a v) :
    ∃ p vs, v = .ref p ∧ RVs K mg rho H xs vs ∧ (L2.SqL K H p vs ∨ L2.SqT K H p vs) := by
  cases r with
  | tup h1 h2 => cases e; exact ⟨_, _, rfl, h2, .inr (.of h1)⟩
  | rol h1 h2 =>
    cases e
    refine ⟨_, _, rfl, h2, .inl ?_⟩
    exact rol_sq h1
  | ref hp =>
    rename_i n p
    unfold seqOf at e
    dsimp only at e
    cases q : h[n]? with
    | none => rw [q] at e; cases e
    | some o =>
      rw [q] at e
      cases o with
      | lst ys =>
        cases e
        obtain ⟨vs, h1, h2⟩ := hr.lst hp q
        exact ⟨_, vs, rfl, h2, .inl (.of h1)⟩
      | dK _ => cases e
      | dT _ => cases e
      | tab _ _ => cases e
  | _ => cases e
/-- a list, by value or by its place -/
def lsOf (h : Hs) : A → Option (List A)
  | .rol xs => some xs
  | .ref n => match h[n]? with
    | some (.lst xs) => some xs
    | _ => none
  | _ => none
theorem lsOf_get (hr : HR K mg rho H h) {a : A} {xs : List A} (e : lsOf h a = some xs) {v : L2.V} (r : RV K mg rho H a v) :
    ∃ p vs, v = .ref p ∧ RVs K mg rho H xs vs ∧ L2.SqL K H p vs := by
  cases r with
  | rol h1 h2 =>
    cases e
    refine ⟨_, _, rfl, h2, ?_⟩
    exact rol_sq h1
  | ref hp =>
    rename_i n p
    unfold lsOf at e
    dsimp only at e
    cases q : h[n]? with
    | none => rw [q] at e; cases e
    | some o =>
      rw [q] at e
      cases o with
      | lst ys =>
        cases e
        obtain ⟨vs, h1, h2⟩ := hr.lst hp q
        exact ⟨_, vs, rfl, h2, .of h1⟩
      | dK _ => cases e
      | dT _ => cases e
      | tab _ _ => cases e
  | _ => cases e
/-- ints among values -/
def intsOf : List A → Option (List Int)
  | [] => some []
  | .int i :: r => (intsOf r).map fun l => i :: l
  | _ => none
theorem intsOf_get : ∀ {as : List A} {ns : List Int}, intsOf as = some ns → ∀ {vs : List L2.V}, RVs K mg rho H as vs → vs = ns.map L2.V.int
  | [], _, e, _, r => by cases e; cases r; rfl
  | .int i :: r, ns, e, _, rv => by
    unfold intsOf at e
    cases q : intsOf r with
    | none => rw [q] at e; cases e
    | some l =>
      rw [q] at e
      cases e
      cases rv with
      | cons a t => cases a; rw [intsOf_get q t]; rfl
  | .non :: _, _, e, _, _ => by cases e
  | .bl _ :: _, _, e, _, _ => by cases e
  | .str _ :: _, _, e, _, _ => by cases e
  | .tup _ :: _, _, e, _, _ => by cases e
  | .rol _ :: _, _, e, _, _ => by cases e
  | .ref _ :: _, _, e, _, _ => by cases e
  | .glo _ :: _, _, e, _, _ => by cases e
  | .ty _ :: _, _, e, _, _ => by cases e
def blsOf : List A → Option (List Bool)
  | [] => some []
  | .bl i :: r => (blsOf r).map fun l => i :: l
  | _ => none
theorem blsOf_get : ∀ {as : List A} {ns : List Bool}, blsOf as = some ns → ∀ {vs : List L2.V}, RVs K mg rho H as vs → vs = ns.map L2.V.bl
  | [], _, e, _, r => by cases e; cases r; rfl
  | .bl i :: r, ns, e, _, rv => by
    unfold blsOf at e
    cases q : blsOf r with
    | none => rw [q] at e; cases e
    | some l =>
      rw [q] at e
      cases e
      cases rv with
      | cons a t => cases a; rw [blsOf_get q t]; rfl
  | .non :: _, _, e, _, _ => by cases e
  | .int _ :: _, _, e, _, _ => by cases e
  | .str _ :: _, _, e, _, _ => by cases e
  | .tup _ :: _, _, e, _, _ => by cases e
  | .rol _ :: _, _, e, _, _ => by cases e
  | .ref _ :: _, _, e, _, _ => by cases e
  | .glo _ :: _, _, e, _, _ => by cases e
  | .ty _ :: _, _, e, _, _ => by cases e
def strsOf : List A → Option (List Str)
  | [] => some []
  | .str i :: r => (strsOf r).map fun l => i :: l
  | _ => none
theorem strsOf_get : ∀ {as : List A} {ns : List Str}, strsOf as = some ns → ∀ {vs : List L2.V}, RVs K mg rho H as vs → vs = ns.map L2.V.str
  | [], _, e, _, r => by cases e; cases r; rfl
  | .str i :: r, ns, e, _, rv => by
    unfold strsOf at e
    cases q : strsOf r with
    | none => rw [q] at e; cases e
    | some l =>
      rw [q] at e
      cases e
      cases rv with
      | cons a t => cases a; rw [strsOf_get q t]; rfl
  | .non :: _, _, e, _, _ => by cases e
  | .int _ :: _, _, e, _, _ => by cases e
  | .bl _ :: _, _, e, _, _ => by cases e
  | .tup _ :: _, _, e, _, _ => by cases e
  | .rol _ :: _, _, e, _, _ => by cases e
  | .ref _ :: _, _, e, _, _ => by cases e
  | .glo _ :: _, _, e, _, _ => by cases e
  | .ty _ :: _, _, e, _, _ => by cases e
end

/-! ### arithmetic -/
/-- a new list -/
def newL (xs : List A) (h : Hs) : R A := .ok (.ref h.length) (h ++ [.lst xs])
def lstOf (h : Hs) : A → Option (List A)
  | .ref n => match h[n]? with
    | some (.lst xs) => some xs
    | _ => none
  | _ => none
def addA : O2 := fun a b h => match a, b with
  | .int i, .int j => .ok (.int (i + j)) h
  | .str x, .str y => if x.length + y.length ≤ sizeLine then .ok (.str (x ++ y)) h else .no
  | .tup xs, .tup ys => if xs.length + ys.length ≤ sizeLine then .ok (.tup (xs ++ ys)) h else .no
  | .ref n, .ref m => match lstOf h (.ref n), lstOf h (.ref m) with
    | some xs, some ys => if xs.length + ys.length ≤ sizeLine then newL (xs ++ ys) h else .no
    | _, _ => .no
  | _, _ => .no
def intA (g : Int → Int → Option Int) : O2 := fun a b h => match a, b with
  | .int i, .int j => match g i j with
    | some k => .ok (.int k) h
    | none => .no
  | _, _ => .no
def subI (i j : Int) : Option Int := some (i - j)
def mulI (i j : Int) : Option Int := if i.natAbs.log2 + j.natAbs.log2 < 1000000 then some (i * j) else none
def divI (i j : Int) : Option Int := if 0 < j ∧ j.natAbs.log2 < 9000 then some (i / j) else none
def modI (i j : Int) : Option Int := if 0 < j then some (i % j) else none
def powI (i j : Int) : Option Int := if 0 ≤ j ∧ (Builtin.Int.intBits i : Int) * j ≤ 2 ^ 27 then some (i ^ j.toNat) else none
section
open PySem.Spec PyProof.Rows
open L2 (OpR V Inv Hp)
theorem tuple_mul1 (l : Addr) (items : Array Value) (n : Nat) (dd : Option Addr) (sl : Array (Option Value)) (u : Tok) (c1 : (items.isEmpty || (1 : Int) == 1) = true) :
    Meets (Builtin.«tuple.__mul__» ⟨[.ref l, .int 1 u], []⟩) (fun _ R s => s.heap.get? l = some { cls := .type "tuple", dict := dd, data := .seq items n, slots := sl } ∧ ∀ t, R (.ok (.ret (Value.ref l))) { s with toks := t }) :=
  .of_wp fun prog w A R s h => by
    obtain ⟨hp, g, d, tk, os⟩ := s
    obtain ⟨hl, h⟩ := h
    have f1 := AutoSeq1.idx_int
    wp_walk using wpAny_loadPart' hl
    exact ⟨_, rfl, h tk⟩
theorem foldl_repN (its : List Nat) : ∀ (k : Nat) (acc : List Nat), List.foldl (fun x1 x2 => x1 ++ x2) acc.toArray (List.replicate k its.toArray) = (acc ++ (List.replicate k its).flatten).toArray
  | 0, acc => by simp
  | k + 1, acc => by
    have e : acc.toArray ++ its.toArray = (acc ++ its).toArray := by simp
    rw [List.replicate_succ, List.foldl_cons, e, foldl_repN its k (acc ++ its)]
    simp [List.replicate_succ]
/-- z * k -/
def repS (z : Str) (k : Int) : Str := ⟨(List.replicate k.toNat z.cps.toList).flatten.toArray⟩
def rRepS : L2.R2 := fun x y H Q => ∃ z k, x = .str z ∧ y = .int k ∧ 2 ≤ k ∧ k ≤ 4000 ∧ 1 ≤ z.length ∧ z.length ≤ 1000 ∧ Q (.str (repS z k)) H
theorem op_repStr {X : L2.Cx} : OpR X (binaryOp .Mult) rRepS := by
  intro pins s σ H x y v u Q I rx ry h
  obtain ⟨z, k, rfl, rfl, h1, h2, h3, h4, q⟩ := h
  obtain ⟨t, rfl⟩ := rx
  obtain ⟨t', rfl⟩ := ry
  have c : (k == 1 || z.length == 0) = false := by
    rw [Bool.or_eq_false_iff, beq_eq_false_iff_ne, beq_eq_false_iff_ne]
    exact ⟨by omega, by omega⟩
  refine P.mul_str ?_ (fun _ _ => ?_) (fun _ _ => ?_) ?_
  · rw [decide_eq_false (by omega), decide_eq_false (by omega)]; rfl
  · intro g
    have e : (1000000 : Int) ≤ (2 ^ 63 - 1) / k := Int.le_ediv_of_mul_le (by omega) (by omega)
    omega
  · have e : z.length * k.toNat ≤ 1000 * 4000 := Nat.mul_le_mul (by omega) (by omega)
    unfold Builtin.Str.tooLong
    rw [sizeLine_eq]
    exact decide_eq_false (by omega)
  · rw [if_neg (by omega), c]
    have e0 : (⟨(List.replicate k.toNat z.cps).foldl (· ++ ·) #[]⟩ : Str) = repS z k := by
      have := foldl_repN z.cps.toList k.toNat []
      rw [Array.toArray_toList] at this
      unfold repS
      exact congrArg Str.mk (this.trans (by rw [List.nil_append]))
    rw [e0]
    refine ⟨?_, .str _, H, I.tok _, ⟨_, rfl⟩, q⟩
    have e1 : (repS z k).length = k.toNat * z.length := by
      show ((List.replicate k.toNat z.cps.toList).flatten.toArray).size = k.toNat * z.cps.size
      rw [List.size_toArray, PyProof.Rows.lm_len_rep_flat, Array.length_toList]
    have e : k.toNat * z.length ≤ 4000 * 1000 := Nat.mul_le_mul (by omega) (by omega)
    rw [e1, sizeLine_eq]
    omega
def rRepT1 (K : PySem.W.Frag) : L2.R2 := fun x y H Q => ∃ l xs, x = .ref l ∧ y = .int 1 ∧ L2.SqT K H l xs ∧ Q (.ref l) H
theorem op_repT1 {X : L2.Cx} : OpR X (binaryOp .Mult) (rRepT1 X.K) := by
  intro pins s σ H x y v u Q I rx ry h
  obtain ⟨l, xs, rfl, rfl, hT, q⟩ := h
  cases rx
  obtain ⟨t, rfl⟩ := ry
  obtain ⟨its, r, ⟨⟨cls, dd, data, sl⟩, ho, hc, n, hd⟩, hs⟩ := I.tuple hT
  simp only at hc hd
  subst hc hd
  refine wpAny_binaryOp_repeat_ref (T := "tuple") (U := "int") (by decide) ⟨_, ho, rfl⟩ (fun s' => typeIs_int s' 1 t) L2.noFill_tuple_mul F.fills_int_mul F.slot_int_rmul L2.repeat_tuple F.slot_int_index.lookup
    (call_meets F.slot_int_rmul (typeIs_int s 1 t) F.entry_int_rmul (F.args_int_rmul_2 _ _) (L2.int_rmul_tuple 1 t l its.toArray n dd sl)
      ⟨ho, rfl, ⟨_, ho, rfl⟩, call_meets F.slot_tuple_mul ⟨_, ho, rfl⟩ F.entry_tuple_mul (F.args_tuple_mul_2 _ _) (tuple_mul1 l its.toArray n dd sl t (by rw [Bool.or_eq_true]; exact .inr rfl)) ⟨ho, fun t' => ?_⟩⟩)
  exact ⟨.ref l, H, I.tok _, rfl, q⟩
end
def mulA : O2 := fun a b h => match a, b with
  | .int i, .int j => match mulI i j with
    | some k => .ok (.int k) h
    | none => .no
  | .ref n, .int k => match lstOf h (.ref n) with
    | some xs => if -(2 ^ 63) ≤ k ∧ k < 2 ^ 63 ∧ xs.length * k.toNat ≤ sizeLine then newL (List.replicate k.toNat xs).flatten h else .no
    | none => .no
  | .str z, .int k => if 2 ≤ k ∧ k ≤ 4000 ∧ 1 ≤ z.length ∧ z.length ≤ 1000 then .ok (.str (repS z k)) h else .no
  | .tup xs, .int k => if k = 1 then .ok (.tup xs) h else if xs ≠ [] ∧ 2 ≤ k ∧ k ≤ 1000 ∧ xs.length ≤ 1000 then .ok (.tup (List.replicate k.toNat xs).flatten) h else .no
  | _, _ => .no
section
variable {K : PySem.W.Frag} {mg : Str → Option Value} {rho rho' : List Addr} {H H' : Hp} {h h' : Hs}
theorem lstOf_get (hr : HR K mg rho H h) {a : A} {xs : List A} (e : lstOf h a = some xs) {v : L2.V} (r : RV K mg rho H a v) : ∃ n p vs, a = .ref n ∧ v = .ref p ∧ rho[n]? = some p ∧ h[n]? = some (.lst xs) ∧ H p = some (.lst vs) ∧ RVs K mg rho H xs vs := by
  cases r with
  | ref hp =>
    rename_i n p
    unfold lstOf at e
    dsimp only at e
    cases q : h[n]? with
    | none => rw [q] at e; cases e
    | some o =>
      rw [q] at e
      cases o with
      | lst ys =>
        cases e
        obtain ⟨vs, h1, h2⟩ := hr.lst hp q
        exact ⟨n, p, vs, rfl, rfl, hp, q, h1, h2⟩
      | dK _ => cases e
      | dT _ => cases e
      | tab _ _ => cases e
  | _ => cases e
/-- a new list is handed back -/
theorem newL_ok (hr : HR K mg rho H h) {xs : List A} {vs : List L2.V} {W : Value → Option Addr → Hp → Prop} {Q : VK} (p : PostV K mg rho H W Q (newL xs h)) (r : RVs K mg rho H xs vs) : ∀ q, H q = none → Q (.ref q) (L2.upd H q (.lst vs)) := fun q hq => by
  obtain ⟨n, hr'⟩ := hr.new (o := .lst xs) (u := .lst vs) hq (.lst r)
  refine p (.ref q) (rho ++ [q]) _ n hr' (.ref ?_)
  rw [← hr.len, List.getElem?_append_right (Nat.le_refl _), Nat.sub_self]
  rfl
/-- a new tuple is handed back -/
theorem newT_ok (hr : HR K mg rho H h) {xs : List A} {vs : List L2.V} {W : Value → Option Addr → Hp → Prop} {Q : VK} (p : PostV K mg rho H W Q (.ok (.tup xs) h)) (r : RVs K mg rho H xs vs) : ∀ q, H q = none → Q (.ref q) (L2.upd H q (.tup vs)) := fun q hq => by
  obtain ⟨n, hr'⟩ := hr.tup (u := .tup vs) hq
  exact p (.ref q) rho _ n hr' (.tup L2.upd_same (r.mono hr n))
theorem RVs.rep {xs : List A} {vs : List L2.V} (r : RVs K mg rho H xs vs) : ∀ k : Nat, RVs K mg rho H (List.replicate k xs).flatten (List.replicate k vs).flatten
  | 0 => .nil
  | k + 1 => by rw [List.replicate_succ, List.replicate_succ, List.flatten_cons, List.flatten_cons]; exact r.append (RVs.rep r k)
abbrev rAddS : L2.R2 := fun x y H Q => ∃ i j, x = .str i ∧ y = .str j ∧ i.length + j.length ≤ sizeLine ∧ Q (.str (i ++ j)) H
def rAddA (K : PySem.W.Frag) : L2.R2 := fun x y H Q => L2.rI0 (fun i j => .int (i + j)) x y H Q ∨ (rAddS x y H Q ∨ (L2.rCatA K x y H Q ∨ L2.rCat x y H Q))
theorem op_addA {X : Cx} : L2.OpR X (binaryOp .Add) (rAddA X.K) := L2.op_add.or (L2.op_add_str.or (L2.op_catA.or L2.op_cat))
theorem rf_add : Rf2 K mg (rAddA K) addA := by
  intro rho H h a b x y W Q hr ra rb p
  unfold addA at p
  split at p
  · cases ra; cases rb
    exact .inl ⟨_, _, rfl, rfl, p.here hr (.int _)⟩
  · cases ra; cases rb
    split at p
    · rename_i hz
      exact .inr (.inl ⟨_, _, rfl, rfl, hz, p.here hr (.str _)⟩)
    · exact p.elim
  · cases ra with
    | tup ha r1 =>
      cases rb with
      | tup hb r2 =>
        split at p
        · rename_i hz
          have z1 := r1.length
          have z2 := r2.length
          refine .inr (.inr (.inl ⟨_, _, _, _, rfl, rfl, .of ha, .of hb, by omega, fun e => ?_, fun n e => ?_, fun n1 n2 q hq => ?_⟩))
          · subst e; cases r1
            exact p.here hr (.tup hb r2)
          · subst e; cases r2
            rw [List.append_nil] at p
            exact p.here hr (.tup ha r1)
          · exact newT_ok hr p (r1.append r2) q hq
        · exact p.elim
  · split at p
    · rename_i xs ys e1 e2
      split at p
      · rename_i hz
        obtain ⟨n, q, vs, _, rfl, _, _, h1, r1⟩ := lstOf_get hr e1 ra
        obtain ⟨m, q2, us, _, rfl, _, _, h2, r2⟩ := lstOf_get hr e2 rb
        have z1 := r1.length
        have z2 := r2.length
        exact .inr (.inr (.inr ⟨_, _, vs, us, rfl, rfl, h1, h2, by omega, newL_ok hr p (r1.append r2)⟩))
      · exact p.elim
    · exact p.elim
  · exact p.elim
theorem rf_int {C : Int → Int → Prop} {f : Int → Int → Int} {g : Int → Int → Option Int} (hg : ∀ i j k, g i j = some k → C i j ∧ k = f i j) : Rf2 K mg (L2.rI C fun i j => .int (f i j)) (intA g) := by
  intro rho H h a b x y W Q hr ra rb p
  unfold intA at p
  split at p
  · cases ra; cases rb
    split at p
    · rename_i i j k e
      obtain ⟨c, rfl⟩ := hg _ _ _ e
      exact ⟨_, _, rfl, rfl, c, p.here hr (.int _)⟩
    · exact p.elim
  · exact p.elim
theorem rf_int0 {f : Int → Int → Int} {g : Int → Int → Option Int} (hg : ∀ i j k, g i j = some k → k = f i j) : Rf2 K mg (L2.rI0 fun i j => .int (f i j)) (intA g) := by
  intro rho H h a b x y W Q hr ra rb p
  unfold intA at p
  split at p
  · cases ra; cases rb
    split at p
    · rename_i i j k e
      obtain rfl := hg _ _ _ e
      exact ⟨_, _, rfl, rfl, p.here hr (.int _)⟩
    · exact p.elim
  · exact p.elim
theorem mulI_of {i j k : Int} (h : mulI i j = some k) : L2.CMulW i j ∧ k = i * j := by
  unfold mulI at h
  split at h
  · rename_i c; exact ⟨c, (Option.some.inj h).symm⟩
  · cases h
theorem divI_of {i j k : Int} (h : divI i j = some k) : L2.CDivW i j ∧ k = i / j := by
  unfold divI at h
  split at h
  · rename_i c; exact ⟨c, (Option.some.inj h).symm⟩
  · cases h
theorem modI_of {i j k : Int} (h : modI i j = some k) : 0 < j ∧ k = i % j := by
  unfold modI at h
  split at h
  · rename_i c; exact ⟨c, (Option.some.inj h).symm⟩
  · cases h
def CPowW (i j : Int) : Prop := 0 ≤ j ∧ (Builtin.Int.intBits i : Int) * j ≤ 2 ^ 27
theorem powI_of {i j k : Int} (h : powI i j = some k) : CPowW i j ∧ k = i ^ j.toNat := by
  unfold powI at h
  split at h
  · rename_i c; exact ⟨c, (Option.some.inj h).symm⟩
  · cases h
theorem op_powW {X : Cx} : L2.OpR X (binaryOp .Pow) (L2.rI CPowW fun i j => .int (i ^ j.toNat)) := L2.opI fun _ _ _ _ _ _ _ hc q => PyProof.Rows.pow_int hc.1 hc.2 q
theorem rf_sub : Rf2 K mg (L2.rI0 fun i j => .int (i - j)) (intA subI) := rf_int0 fun _ _ _ h => (Option.some.inj h).symm
theorem rf_div : Rf2 K mg (L2.rI L2.CDivW fun i j => .int (i / j)) (intA divI) := rf_int fun _ _ _ h => divI_of h
theorem rf_mod : Rf2 K mg (L2.rI (fun _ j => 0 < j) fun i j => .int (i % j)) (intA modI) := rf_int fun _ _ _ h => modI_of h
theorem rf_pow : Rf2 K mg (L2.rI CPowW fun i j => .int (i ^ j.toNat)) (intA powI) := rf_int fun _ _ _ h => powI_of h
def rMulA (K : PySem.W.Frag) : L2.R2 := fun x y H Q => L2.rI L2.CMulW (fun i j => .int (i * j)) x y H Q ∨ (L2.rRep x y H Q ∨ (L2.rRepT K x y H Q ∨ (rRepS x y H Q ∨ rRepT1 K x y H Q)))
theorem op_mulA {X : Cx} : L2.OpR X (binaryOp .Mult) (rMulA X.K) := L2.op_mulW.or (L2.op_rep.or (L2.op_repT.or (op_repStr.or op_repT1)))
theorem rf_mul : Rf2 K mg (rMulA K) mulA := by
  intro rho H h a b x y W Q hr ra rb p
  unfold mulA at p
  split at p
  · cases ra; cases rb
    split at p
    · rename_i i j k e
      obtain ⟨c, rfl⟩ := mulI_of e
      exact .inl ⟨_, _, rfl, rfl, c, p.here hr (.int _)⟩
    · exact p.elim
  · cases rb
    split at p
    · rename_i xs e
      split at p
      · rename_i hz
        obtain ⟨n, q, vs, _, rfl, _, _, h1, r1⟩ := lstOf_get hr e ra
        have z1 := r1.length
        exact .inr (.inl ⟨_, _, vs, rfl, rfl, h1, hz.1, hz.2.1, by rw [← z1]; exact hz.2.2, newL_ok hr p (r1.rep _)⟩)
      · exact p.elim
    · exact p.elim
  · cases rb
    split at p
    · rename_i hz
      cases ra
      exact .inr (.inr (.inr (.inl ⟨_, _, rfl, rfl, hz.1, hz.2.1, hz.2.2.1, hz.2.2.2, p.here hr (.str _)⟩)))
    · exact p.elim
  · cases rb
    cases ra with
    | tup ha r1 =>
      split at p
      · rename_i hz
        subst hz
        exact .inr (.inr (.inr (.inr ⟨_, _, rfl, rfl, .of ha, p.here hr (.tup ha r1)⟩)))
      · split at p
        · rename_i hz
          have z1 := r1.length
          refine .inr (.inr (.inl ⟨_, _, _, rfl, rfl, .of ha, fun e => ?_, hz.2.1, hz.2.2.1, by omega, newT_ok hr p (r1.rep _)⟩))
          subst e; cases r1; exact hz.1 rfl
        · exact p.elim
  · exact p.elim
theorem rf_neg : Rf1 K mg (L2.rU fun i => .int (-i)) (fun a h => match a with | .int i => .ok (.int (-i)) h | _ => .no) := by
  intro rho H h a x W Q hr ra p
  cases ra with
  | int i => exact ⟨i, rfl, p.here hr (.int _)⟩
  | _ => exact p.elim
end
def negA : A → Hs → R A := fun a h => match a with | .int i => .ok (.int (-i)) h | _ => .no

/-! ### comparisons -/
def cmpI (q : Int → Int → Bool) : O2 := fun a b h => match a, b with
  | .int i, .int j => .ok (.bl (q i j)) h
  | _, _ => .no
section
variable {K : PySem.W.Frag} {mg : Str → Option Value} {rho rho' : List Addr} {H H' : Hp} {h h' : Hs}
theorem rf_cmp {q : Int → Int → Bool} : Rf2 K mg (L2.rI0 fun i j => .bl (q i j)) (cmpI q) := by
  intro rho H h a b x y W Q hr ra rb p
  unfold cmpI at p
  split at p
  · cases ra; cases rb
    exact ⟨_, _, rfl, rfl, p.here hr (.bl _)⟩
  · exact p.elim
end
abbrev qlt (i j : Int) : Bool := decide (i < j)
abbrev qle (i j : Int) : Bool := decide (i ≤ j)
abbrev qgt (i j : Int) : Bool := decide (j < i)
abbrev qge (i j : Int) : Bool := decide (j ≤ i)
/-! data as a whole -/
mutual
def toDw (f : Nat → Option PyData) : A → Option PyData
  | .non => some .none
  | .bl b => some (.bool b)
  | .int i => some (.int i)
  | .str x => some (.str x)
  | .tup xs => (toDws f xs).map .tuple
  | .rol xs => (toDws f xs).map .list
  | .ref n => f n
  | .glo _ => none
  | .ty _ => none
def toDws (f : Nat → Option PyData) : List A → Option (List PyData)
  | [] => some []
  | a :: as => (toDw f a).bind fun d => (toDws f as).map fun ds => d :: ds
end
def refD : Nat → Hs → Nat → Option PyData
  | 0, _, _ => none
  | k + 1, h, n => match h[n]? with
    | some (.lst xs) => (toDws (refD k h) xs).map .list
    | _ => none
def toD (h : Hs) (a : A) : Option PyData := toDw (refD 6 h) a
section
variable {K : PySem.W.Frag} {mg : Str → Option Value} {rho rho' : List Addr} {H H' : Hp} {h h' : Hs}
mutual
theorem toDw_get {f : Nat → Option PyData} (hf : ∀ n d p, f n = some d → rho[n]? = some p → L2.Dp K H (.ref p) d) : ∀ {a : A} {d : PyData} {v : L2.V}, toDw f a = some d → RV K mg rho H a v → L2.Dp K H v d
  | .non, _, _, e, r => by cases r; rw [toDw] at e; cases e; exact .non
  | .bl b, _, _, e, r => by cases r; rw [toDw] at e; cases e; exact .bl b
  | .int i, _, _, e, r => by cases r; rw [toDw] at e; cases e; exact .int i
  | .str x, _, _, e, r => by cases r; rw [toDw] at e; cases e; exact .str x
  | .tup xs, _, _, e, r => by
    cases r with
    | tup h1 h2 =>
      rw [toDw] at e
      cases q : toDws f xs with
      | none => rw [q] at e; cases e
      | some ds => rw [q] at e; cases e; exact .tup (.of h1) (toDws_get hf q h2)
  | .rol xs, _, _, e, r => by
    cases r with
    | rol h1 h2 =>
      rw [toDw] at e
      cases q : toDws f xs with
      | none => rw [q] at e; cases e
      | some ds =>
        rw [q] at e; cases e
        refine .lst ?_ (toDws_get hf q h2)
        exact rol_sq h1
  | .ref n, _, _, e, r => by
    cases r with
    | ref hp => rw [toDw] at e; exact hf n _ _ e hp
  | .glo _, _, _, e, _ => by rw [toDw] at e; cases e
  | .ty _, _, _, e, _ => by rw [toDw] at e; cases e
theorem toDws_get {f : Nat → Option PyData} (hf : ∀ n d p, f n = some d → rho[n]? = some p → L2.Dp K H (.ref p) d) : ∀ {as : List A} {ds : List PyData} {vs : List L2.V}, toDws f as = some ds → RVs K mg rho H as vs → L2.DpAll K H vs ds
  | [], _, _, e, r => by cases r; rw [toDws] at e; cases e; exact .nil
  | a :: as, _, _, e, r => by
    cases r with
    | cons r1 r2 =>
      rw [toDws] at e
      cases q : toDw f a with
      | none => rw [q] at e; cases e
      | some d =>
        rw [q] at e
        cases q2 : toDws f as with
        | none => rw [q2] at e; cases e
        | some ds => rw [q2] at e; cases e; exact .cons (toDw_get hf q r1) (toDws_get hf q2 r2)
end
theorem refD_get (hr : HR K mg rho H h) : ∀ (k : Nat) {n : Nat} {d : PyData} {p : Addr}, refD k h n = some d → rho[n]? = some p → L2.Dp K H (.ref p) d
  | 0, _, _, _, e, _ => by cases e
  | k + 1, n, d, p, e, hp => by
    rw [refD] at e
    cases q : h[n]? with
    | none => rw [q] at e; cases e
    | some o =>
      rw [q] at e
      cases o with
      | dK _ => cases e
      | dT _ => cases e
      | tab _ _ => cases e
      | lst xs =>
        simp only at e
        cases q2 : toDws (refD k h) xs with
        | none => rw [q2] at e; cases e
        | some ds =>
          rw [q2] at e; cases e
          obtain ⟨vs, h1, h2⟩ := hr.lst hp q
          exact .lst (.of h1) (toDws_get (fun n d p e hp => refD_get hr k e hp) q2 h2)
theorem toD_get (hr : HR K mg rho H h) {a : A} {d : PyData} {v : L2.V} (e : toD h a = some d) (r : RV K mg rho H a v) : L2.Dp K H v d := toDw_get (fun n d p e hp => refD_get hr 6 e hp) e r
end
def eqA (neg : Bool) : O2 := fun a b h => match toD h a, toD h b with
  | some d, some e => if SeqAt.shaped d && SeqAt.shaped e then .ok (.bl (if neg then !PyData.eqv d e else PyData.eqv d e)) h else .no
  | _, _ => .no
section
variable {K : PySem.W.Frag} {mg : Str → Option Value} {rho rho' : List Addr} {H H' : Hp} {h h' : Hs}
theorem rf_eq : Rf2 K mg (L2.rEqD K) (eqA false) := by
  intro rho H h a b x y W Q hr ra rb p
  unfold eqA at p
  split at p
  · rename_i d e e1 e2
    split at p
    · rename_i hs
      rw [Bool.and_eq_true] at hs
      exact ⟨d, e, toD_get hr e1 ra, toD_get hr e2 rb, hs.1, hs.2, p.here hr (.bl _)⟩
    · exact p.elim
  · exact p.elim
theorem rf_ne : Rf2 K mg (L2.rNeD K) (eqA true) := by
  intro rho H h a b x y W Q hr ra rb p
  unfold eqA at p
  split at p
  · rename_i d e e1 e2
    split at p
    · rename_i hs
      rw [Bool.and_eq_true] at hs
      exact ⟨d, e, toD_get hr e1 ra, toD_get hr e2 rb, hs.1, hs.2, p.here hr (.bl _)⟩
    · exact p.elim
  · exact p.elim
end
/-- x in a sequence of flat things; a text in a text -/
def flatA : A → Option L2.V
  | .non => some .non
  | .bl b => some (.bl b)
  | .int i => some (.int i)
  | .str x => some (.str x)
  | _ => none
def flatsA : List A → Option (List L2.V)
  | [] => some []
  | a :: as => (flatA a).bind fun v => (flatsA as).map fun vs => v :: vs
def inSeq (neg : Bool) : O2 := fun a b h => match a, b with
  | .str i, .str j => .ok (.bl (if neg then !(!(Builtin.Str.occurrences j i 0 j.length 1).isEmpty) else !(Builtin.Str.occurrences j i 0 j.length 1).isEmpty)) h
  | a, b => match flatA a, (seqOf h b).bind flatsA with
    | some x, some xs => .ok (.bl (if neg then !L2.inV x xs else L2.inV x xs)) h
    | _, _ => .no
section
variable {K : PySem.W.Frag} {mg : Str → Option Value} {rho rho' : List Addr} {H H' : Hp} {h h' : Hs}
theorem flatA_get {a : A} {x v : L2.V} (e : flatA a = some x) (r : RV K mg rho H a v) : v = x ∧ L2.flatV x = true := by
  cases r <;> first
    | (cases e; exact ⟨rfl, rfl⟩)
    | cases e
theorem flatsA_get : ∀ {as : List A} {xs vs : List L2.V}, flatsA as = some xs → RVs K mg rho H as vs → vs = xs ∧ xs.all L2.flatV = true
  | [], _, _, e, r => by cases e; cases r; exact ⟨rfl, rfl⟩
  | a :: as, xs, vs, e, r => by
    cases r with
    | cons r1 r2 =>
      rw [flatsA] at e
      cases q : flatA a with
      | none => rw [q] at e; cases e
      | some x =>
        rw [q] at e
        cases q2 : flatsA as with
        | none => rw [q2] at e; cases e
        | some ys =>
          rw [q2] at e; cases e
          obtain ⟨rfl, f1⟩ := flatA_get q r1
          obtain ⟨rfl, f2⟩ := flatsA_get q2 r2
          exact ⟨rfl, by rw [List.all_cons, f1, f2]; rfl⟩
abbrev rInS (neg : Bool) : L2.R2 := fun x y H Q => ∃ i j, x = .str i ∧ y = .str j ∧ Q (.bl (if neg then !(!(Builtin.Str.occurrences j i 0 j.length 1).isEmpty) else !(Builtin.Str.occurrences j i 0 j.length 1).isEmpty)) H
def rInA (K : PySem.W.Frag) (neg : Bool) : L2.R2 := fun x y H Q => rInS neg x y H Q ∨ L2.rIn K neg x y H Q
theorem op_inA {X : Cx} : L2.OpR X (compareOp .In) (rInA X.K false) := L2.op_in_str.or L2.op_in_seq
theorem op_ninA {X : Cx} : L2.OpR X (compareOp .NotIn) (rInA X.K true) := L2.op_notin_str.or L2.op_notIn_seq
theorem rf_in {neg : Bool} : Rf2 K mg (rInA K neg) (inSeq neg) := by
  intro rho H h a b x y W Q hr ra rb p
  unfold inSeq at p
  split at p
  · cases ra; cases rb
    exact .inl ⟨_, _, rfl, rfl, p.here hr (.bl _)⟩
  · split at p
    · rename_i xv xs e1 e2
      obtain ⟨rfl, f1⟩ := flatA_get e1 ra
      cases q : seqOf h b with
      | none => rw [q] at e2; cases e2
      | some ys =>
        rw [q] at e2
        obtain ⟨pp, vs, rfl, r1, hq⟩ := seqOf_get hr q rb
        obtain ⟨rfl, f2⟩ := flatsA_get e2 r1
        exact .inr ⟨pp, vs, rfl, hq, f1, f2, p.here hr (.bl _)⟩
    · exact p.elim
end
end Dn

set_option maxHeartbeats 4000000
/-! Dn4: displays, subscripts, slices, calls of defs, of built-ins, methods of lists and texts. -/
namespace Dn
open PySem
open L2 (PE PT PA PS PSs PG PGs PI Cx WX Takes HO Hp VK)

/-! ### displays -/
def tupD (f : DA) : DE := fun n s h => (f n s h).bind fun as h1 => if as.length ≤ sizeLine then .ok (.tup as) h1 else .no
def lstD (f : DA) : DE := fun n s h => (f n s h).bind fun as h1 => if as.length ≤ sizeLine then newL as h1 else .no
section
variable {X : Cx} {W : WX} {e : Expr} {es : List Expr} {pos : Pos} {f : DA}
theorem d_tup {x1} (hf : PAd X W es f) : PEd X W (.Tuple es x1 pos) (tupD f) := by
  refine pe_weak (L2.pe_tup hf) fun sg H Q w => ?_
  obtain ⟨n, rho, s, h, hr, l, p⟩ := w
  refine ⟨n, rho, s, h, hr, l, Post.bind p fun as h1 vs rho1 H1 n1 hr1 r1 p1 => ?_⟩
  split at p1
  · rename_i hz
    exact ⟨by rw [← r1.length]; exact hz, newT_ok hr1 p1 r1⟩
  · exact p1.elim
theorem d_lst (hf : PAd X W es f) : PEd X W (.List es pos) (lstD f) := by
  refine pe_weak (L2.pe_lst hf) fun sg H Q w => ?_
  obtain ⟨n, rho, s, h, hr, l, p⟩ := w
  refine ⟨n, rho, s, h, hr, l, Post.bind p fun as h1 vs rho1 H1 n1 hr1 r1 p1 => ?_⟩
  split at p1
  · rename_i hz
    exact ⟨by rw [← r1.length]; exact hz, newL_ok hr1 p1 r1⟩
  · exact p1.elim
end

/-! ### calls of defs -/
def spD (K : PySem.W.Frag) (mg : Str → Option Value) (np : Nat) (G : DF) : L2.Sp := fun vs H Q E => vs.length = np ∧ ∃ n rho h as, HR K mg rho H h ∧ RVs K mg rho H as vs ∧ PostV K mg rho H E Q (G n as h)
def callD (np : Nat) (G : DF) (f : DA) : DE := fun n s h => (f n s h).bind fun as h1 => if as.length = np then G n as h1 else .no
abbrev FnD (P : Program) (w : World) (K : PySem.W.Frag) (mg : Str → Option Value) (base : Heap) (k : Nat) (f : Addr) (fd : FuncData) (ps : List Str) (G : DF) : Prop := L2.FnOk P w K mg base (L2.CX P w) k f fd ps (spD K mg ps.length G)
/-- a def's body, as a function of its arguments -/
def bodyD (np nn : Nat) (b : DS) : DF := fun n as h => if as.length = np then match b n (as.map some ++ List.replicate (nn - np) none) h with
  | .nx _ h1 => .ok .non h1
  | .rt a h1 => .ok a h1
  | .ex x _ h1 => .ex x h1
  | _ => .no
  else .no
section
variable {K : PySem.W.Frag} {mg : Str → Option Value} {rho : List Addr} {H : Hp} {h : Hs}
theorem RVs.get_map : ∀ {as : List A} {vs : List L2.V}, RVs K mg rho H as vs → ∀ (i : Nat) (a : A), (as.map some)[i]? = some (some a) → ∃ v, (vs.map some)[i]? = some (some v) ∧ RV K mg rho H a v
  | _, _, .nil, _, _, e => by simp at e
  | _, _, .cons r _, 0, a, e => by
    simp only [List.map_cons, List.getElem?_cons_zero, Option.some.injEq] at e
    subst e
    exact ⟨_, rfl, r⟩
  | _, _, .cons _ t, i + 1, a, e => RVs.get_map t i a (by simpa using e)
theorem SlR.start {as : List A} {vs : List L2.V} (r : RVs K mg rho H as vs) (N : List Str) (nn np : Nat) (hn : N.length = nn) (hp : as.length = np) (h1 : np ≤ nn) : SlR K mg rho H (as.map some ++ List.replicate (nn - np) none) (L2.start N vs) := by
  have z := r.length
  refine ⟨?_, fun i a e => ?_⟩
  · unfold L2.start
    rw [List.length_append, List.length_append, List.length_map, List.length_map, List.length_replicate, List.length_replicate, ← z, hn, hp]
  · unfold L2.start
    by_cases hi : i < as.length
    · rw [List.getElem?_append_left (by rw [List.length_map]; exact hi)] at e
      rw [List.getElem?_append_left (by rw [List.length_map, ← z]; exact hi)]
      exact r.get_map i a e
    · rw [List.getElem?_append_right (by rw [List.length_map]; omega)] at e
      have := List.mem_of_getElem? e
      rw [List.mem_replicate] at this
      exact absurd this.2 (by simp)
end
section
variable {X : Cx} {W : WX} {e : Expr} {es : List Expr} {pos p : Pos} {f : DA}
theorem d_call {k : Nat} {g : Addr} {fd : FuncData} {ps : List Str} {G : DF} {x : Str} (F : FnD X.prog X.w X.K X.mg X.base k g fd ps G) (hr : L2.Room k X.A) (hg : L2.Gl X x) (hm : X.mg x = some (.ref g)) (hk : PySem.W.keepIn X.K (.ref g) = true)
    (hb : L2.Binds X.K fd ps []) (tk : Takes X W) (ha : PAd X W (e :: es) f) (hdb : (x == ("__debug__" : Str)) = false := by decide)
    (he : starEach (e :: es) X.env = (false, eval e X.env) :: starEach es X.env := by rfl) (hpl : (backTo pos (starEach es X.env)).any (·.1) = false := by rfl) : PEd X W (.Call (.Name x p) (e :: es) [] pos) (callD ps.length G f) := by
  refine pe_weak (L2.pe_callS (E := L2.WE W) F hr hg hm hk hb (fun sg => L2.passAt tk sg) ha hdb he hpl) fun sg H Q w => ?_
  obtain ⟨n, rho, s, h, hr, l, p⟩ := w
  refine ⟨n, rho, s, h, hr, l, Post.bind p fun as h1 vs rho1 H1 n1 hr1 r1 p1 => ?_⟩
  split at p1
  · rename_i hz
    exact ⟨by rw [← r1.length]; exact hz, n, rho1, h1, as, hr1, r1, p1⟩
  · exact p1.elim
theorem d_call0 {k : Nat} {g : Addr} {fd : FuncData} {G : DF} {x : Str} (F : FnD X.prog X.w X.K X.mg X.base k g fd [] G) (hr : L2.Room k X.A) (hg : L2.Gl X x) (hm : X.mg x = some (.ref g)) (hk : PySem.W.keepIn X.K (.ref g) = true)
    (hb : L2.Binds X.K fd [] []) (tk : Takes X W) (hdb : (x == ("__debug__" : Str)) = false := by decide) : PEd X W (.Call (.Name x p) [] [] pos) (callD 0 G nilD) := by
  refine ⟨fun pins s sg H Q I w => ?_⟩
  obtain ⟨n, rho, sl, h, hr', l, p⟩ := w
  refine wpAny_Call_Name_kw (L2.ld_glob I hg hm ?_ hdb)
  refine PySem.W.callWith_K0 I.kIn hk (L2.run_fnS (us := []) (E := L2.WE W) F hr hb (L2.passAt tk sg) I .nil ⟨rfl, n, rho, h, [], hr', .nil, p⟩)
end
section
variable {P : Program} {w : World} {K : PySem.W.Frag} {mg : Str → Option Value} {base : Heap}
/-- THE RULE for a def: its body's function -/
theorem fn_ok {x qual : Str} {st : Stmt} {f : Addr} {fd : FuncData} {N ps : List Str} {k : Nat} {b : DS} (F : L2.Fun K x qual st f fd) (S : L2.FnScope N ps (L2.defScope st)) (hl : ps.length ≤ N.length)
    (hb : ∀ (cdv : Value) (A : Around) (outer : List Env) (s : Shared) (H : Hp) (E : L2.XK), L2.Room k (A.deeper (PyProof.Rows.envOfC qual (L2.defScope st) s.heap.objs.size f cdv)) →
      PBd (L2.cxOf (L2.CX P w) P w K mg base N qual (L2.defScope st) f cdv A outer s H E) (fun cls d _ H => E cls d H) (L2.defBody st) b) : FnD P w K mg base (k + 1) f fd ps (bodyD ps.length N.length b) := by
  refine L2.Fun.okX F S (fun vs H Q E h => h.1) fun cdv A outer s H vs Q E hr h => ?_
  obtain ⟨hlen, n, rho, hh, as, hr', r, p⟩ := h
  refine ⟨_, hb cdv A outer s H E hr, n, rho, as.map some ++ List.replicate (N.length - ps.length) none, hh, hr', ?_, ?_⟩
  · exact SlR.start r N N.length ps.length rfl (by rw [r.length]; exact hlen) hl
  · unfold bodyD at p
    split at p
    · revert p
      cases b n (as.map some ++ List.replicate (N.length - ps.length) none) hh with
      | nx s1 h1 => intro p; exact fun sg rho1 H1 n1 hr1 l1 => p .non rho1 H1 n1 hr1 .non
      | rt a h1 => intro p; exact fun v rho1 H1 n1 hr1 r1 => p v rho1 H1 n1 hr1 r1
      | ex x s1 h1 => intro p; exact fun c d sg rho1 H1 n1 hr1 l1 xr => p c d rho1 H1 n1 hr1 xr
      | bk s1 h1 => intro p; exact p.elim
      | ct s1 h1 => intro p; exact p.elim
      | no => intro p; exact p.elim
    · exact p.elim
theorem fn_mono {f : Addr} {fd : FuncData} {ps : List Str} {j k : Nat} {G : DF} (F : FnD P w K mg base j f fd ps G) (h : j ≤ k) : FnD P w K mg base k f fd ps G := L2.FnOk.mono F h
end
end Dn

set_option maxHeartbeats 4000000
/-! Dn5: subscripts, slices, dicts, calls of built-ins, methods. -/
namespace Dn
open PySem
open L2 (PE PT PA PS PSs PG PGs PI Cx WX Takes HO Hp VK)

/-! ### tables -/
section
variable {k : Type} [DecidableEq k]
def valA {b : Type} (kvs : List (k × b)) (x : k) : Option b := (kvs.find? fun kv => decide (kv.1 = x)).map (·.2)
def putA {b : Type} (kvs : List (k × b)) (x : k) (v : b) : List (k × b) :=
  if (kvs.any fun kv => decide (kv.1 = x)) = true then kvs.map (fun kv => if kv.1 = x then (kv.1, v) else kv) else kvs ++ [(x, v)]
theorem valA_cons {b : Type} (y : k) (v : b) (r : List (k × b)) (x : k) : valA ((y, v) :: r) x = if y = x then some v else valA r x := by
  unfold valA
  rw [List.find?_cons]
  by_cases e : y = x
  · simp [e]
  · simp [e]
end
section
variable {K : PySem.W.Frag} {mg : Str → Option Value} {rho rho' : List Addr} {H H' : Hp} {h h' : Hs} {k : Type} [DecidableEq k]
theorem RKV.length {as : List (k × A)} {vs : List (k × L2.V)} (r : RKV K mg rho H as vs) : as.length = vs.length := by
  induction r with
  | nil => rfl
  | cons _ _ ih => rw [List.length_cons, List.length_cons, ih]
theorem RKV.val {as : List (k × A)} {vs : List (k × L2.V)} (r : RKV K mg rho H as vs) (x : k) : (valA as x = none ∧ L2.valV vs x = none) ∨ ∃ a v, valA as x = some a ∧ L2.valV vs x = some v ∧ RV K mg rho H a v := by
  induction r with
  | nil => exact .inl ⟨rfl, rfl⟩
  | @cons y a v as vs r1 _ ih =>
    by_cases e : y = x
    · refine .inr ⟨a, v, by rw [valA_cons, if_pos e], ?_, r1⟩
      exact L2.valV_pos (p := (y, v)) e
    · rw [valA_cons, if_neg e, L2.valV_neg (p := (y, v)) e]
      exact ih
theorem RKV.any {as : List (k × A)} {vs : List (k × L2.V)} (r : RKV K mg rho H as vs) (x : k) : (as.any fun kv => decide (kv.1 = x)) = (vs.any fun kv => decide (kv.1 = x)) := by
  induction r with
  | nil => rfl
  | cons _ _ ih => rw [List.any_cons, List.any_cons, ih]
theorem RKV.append {as bs : List (k × A)} {vs us : List (k × L2.V)} (r : RKV K mg rho H as vs) (q : RKV K mg rho H bs us) : RKV K mg rho H (as ++ bs) (vs ++ us) := by
  induction r with
  | nil => exact q
  | cons r1 _ ih => exact .cons r1 ih
theorem RKV.put {as : List (k × A)} {vs : List (k × L2.V)} (r : RKV K mg rho H as vs) (x : k) {a : A} {v : L2.V} (rv : RV K mg rho H a v) : RKV K mg rho H (putA as x a) (L2.putK vs x v) := by
  unfold putA L2.putK
  rw [r.any x]
  split
  · rename_i hh
    clear hh
    induction r with
    | nil => exact .nil
    | @cons y b u as vs r1 _ ih =>
      rw [List.map_cons, List.map_cons]
      by_cases e : y = x
      · simp only [e, if_true]
        exact .cons rv (by simpa only [e] using ih)
      · simp only [e, if_false]
        exact .cons r1 ih
  · exact r.append (.cons rv .nil)
theorem putA_len {b : Type} (as : List (k × b)) (x : k) (v : b) : (putA as x v).length ≤ as.length + 1 := by
  unfold putA
  split
  · rw [List.length_map]; omega
  · rw [List.length_append]; simp
end
def keyA : A → Option Key
  | .int i => some (.inl i)
  | .str x => some (.inr x)
  | _ => none
def keysA : List A → Option (List Key)
  | [] => some []
  | a :: as => (keyA a).bind fun k => (keysA as).map fun ks => k :: ks
def tkeyA : A → Option (List Key)
  | .tup xs => keysA xs
  | _ => none
section
variable {K : PySem.W.Frag} {mg : Str → Option Value} {rho rho' : List Addr} {H H' : Hp} {h h' : Hs}
theorem keyA_get {a : A} {x : Key} {v : L2.V} (e : keyA a = some x) (r : RV K mg rho H a v) : v = L2.kV x := by
  cases r <;> first
    | (cases e; rfl)
    | cases e
theorem keysA_get : ∀ {as : List A} {ks : List Key} {vs : List L2.V}, keysA as = some ks → RVs K mg rho H as vs → vs = ks.map L2.kV
  | [], _, _, e, r => by cases e; cases r; rfl
  | a :: as, ks, vs, e, r => by
    cases r with
    | cons r1 r2 =>
      rw [keysA] at e
      cases q : keyA a with
      | none => rw [q] at e; cases e
      | some x =>
        rw [q] at e
        cases q2 : keysA as with
        | none => rw [q2] at e; cases e
        | some ys => rw [q2] at e; cases e; rw [keyA_get q r1, keysA_get q2 r2]; rfl
theorem tkeyA_get {a : A} {ks : List Key} {v : L2.V} (e : tkeyA a = some ks) (r : RV K mg rho H a v) : ∃ p, v = .ref p ∧ H p = some (.tup (ks.map L2.kV)) := by
  cases r with
  | tup h1 h2 => obtain rfl := keysA_get e h2; exact ⟨_, rfl, h1⟩
  | _ => cases e
end
/-- what the dict a holds at b: none: no answer; some none: nothing there -/
def dgetA (h : Hs) (a b : A) : Option (Option A) := match a with
  | .ref n => match h[n]? with
    | some (.dK kvs) => (keyA b).map fun k => valA kvs k
    | some (.dT kvs) => (tkeyA b).map fun k => valA kvs k
    | _ => none
  | _ => none
/-- a[b] = c -/
def dputA (h : Hs) (a b c : A) : Option Hs := match a with
  | .ref n => match h[n]? with
    | some (.dK kvs) => (keyA b).bind fun k => if kvs.length < sizeLine then some (h.set n (.dK (putA kvs k c))) else none
    | some (.dT kvs) => (tkeyA b).bind fun k => if kvs.length < sizeLine then some (h.set n (.dT (putA kvs k c))) else none
    | _ => none
  | _ => none
section
variable {K : PySem.W.Frag} {mg : Str → Option Value} {rho rho' : List Addr} {H H' : Hp} {h h' : Hs}
theorem dgetA_get (hr : HR K mg rho H h) {a b : A} {x y : L2.V} {o : Option A} (e : dgetA h a b = some o) (ra : RV K mg rho H a x) (rb : RV K mg rho H b y) :
    ∃ p ov, x = .ref p ∧ L2.DGet H p y ov ∧ ((o = none ∧ ov = none) ∨ ∃ c v, o = some c ∧ ov = some v ∧ RV K mg rho H c v) := by
  cases ra with
  | ref hp =>
    rename_i n p
    unfold dgetA at e
    dsimp only at e
    cases q : h[n]? with
    | none => rw [q] at e; cases e
    | some ob =>
      rw [q] at e
      cases ob with
      | lst _ => cases e
      | tab _ _ => cases e
      | dK kvs =>
        dsimp only at e
        cases q2 : keyA b with
        | none => rw [q2] at e; cases e
        | some k =>
          rw [q2] at e; cases e
          obtain ⟨vs, h1, h2⟩ := hr.dK hp q
          obtain rfl := keyA_get q2 rb
          refine ⟨p, _, rfl, .k h1, ?_⟩
          rcases h2.val k with ⟨e1, e2⟩ | ⟨c, v, e1, e2, r⟩
          · exact .inl ⟨e1, e2⟩
          · exact .inr ⟨c, v, e1, e2, r⟩
      | dT kvs =>
        dsimp only at e
        cases q2 : tkeyA b with
        | none => rw [q2] at e; cases e
        | some k =>
          rw [q2] at e; cases e
          obtain ⟨vs, h1, h2⟩ := hr.dT hp q
          obtain ⟨t, rfl, ht⟩ := tkeyA_get q2 rb
          refine ⟨p, _, rfl, .t h1 ht, ?_⟩
          rcases h2.val k with ⟨e1, e2⟩ | ⟨c, v, e1, e2, r⟩
          · exact .inl ⟨e1, e2⟩
          · exact .inr ⟨c, v, e1, e2, r⟩
  | _ => cases e
theorem dputA_get (hr : HR K mg rho H h) {a b c : A} {x y z : L2.V} {h' : Hs} (e : dputA h a b c = some h') (ra : RV K mg rho H a x) (rb : RV K mg rho H b y) (rc : RV K mg rho H c z) :
    ∃ p H', x = .ref p ∧ L2.DPut H p y z H' ∧ Nx rho H rho H' ∧ HR K mg rho H' h' := by
  cases ra with
  | ref hp =>
    rename_i n p
    unfold dputA at e
    dsimp only at e
    cases q : h[n]? with
    | none => rw [q] at e; cases e
    | some ob =>
      rw [q] at e
      cases ob with
      | lst _ => cases e
      | tab _ _ => cases e
      | dK kvs =>
        dsimp only at e
        cases q2 : keyA b with
        | none => rw [q2] at e; cases e
        | some k =>
          rw [q2, Option.bind_some] at e
          split at e
          · rename_i hz
            cases e
            obtain ⟨vs, h1, h2⟩ := hr.dK hp q
            obtain rfl := keyA_get q2 rb
            obtain ⟨nx, hr'⟩ := hr.set (o := .dK (putA kvs k c)) (u := .dK (L2.putK vs k z)) hp (.dK (h2.put k rc))
            exact ⟨p, _, rfl, .k h1 (by rw [← h2.length]; exact hz), nx, hr'⟩
          · cases e
      | dT kvs =>
        dsimp only at e
        cases q2 : tkeyA b with
        | none => rw [q2] at e; cases e
        | some k =>
          rw [q2, Option.bind_some] at e
          split at e
          · rename_i hz
            cases e
            obtain ⟨vs, h1, h2⟩ := hr.dT hp q
            obtain ⟨t, rfl, ht⟩ := tkeyA_get q2 rb
            obtain ⟨nx, hr'⟩ := hr.set (o := .dT (putA kvs k c)) (u := .dT (L2.putK vs k z)) hp (.dT (h2.put k rc))
            exact ⟨p, _, rfl, .t h1 ht (by rw [← h2.length]; exact hz), nx, hr'⟩
          · cases e
  | _ => cases e
end

/-! ### subscripts -/
def isDict (h : Hs) : A → Bool
  | .ref n => match h[n]? with
    | some (.dK _) => true
    | some (.dT _) => true
    | _ => false
  | _ => false
def ixA : O2 := fun a b h => if isDict h a then (match dgetA h a b with
    | some (some c) => .ok c h
    | _ => .no)
  else match a, b with
    | .str z, .int i => if z.length ≤ sizeLine then (match L2.atI z.cps.toList i with
      | some c => .ok (.str ⟨#[c]⟩) h
      | none => .no) else .no
    | a, .int i => match seqOf h a with
      | some xs => (match L2.atI xs i with
        | some c => .ok c h
        | none => .no)
      | none => .no
    | _, _ => .no
section
variable {K : PySem.W.Frag} {mg : Str → Option Value} {rho rho' : List Addr} {H H' : Hp} {h h' : Hs}
theorem RVs.atI {as : List A} {vs : List L2.V} (r : RVs K mg rho H as vs) {i : Int} {a : A} (e : L2.atI as i = some a) : ∃ v, L2.atI vs i = some v ∧ RV K mg rho H a v := by
  unfold L2.atI at e ⊢
  rw [← r.length]
  cases q : L2.ixN as.length i with
  | none => rw [q] at e; cases e
  | some j => rw [q] at e; exact r.get e
def Rf2c (K : PySem.W.Frag) (mg : Str → Option Value) (c : A → Hs → Bool) (k : Bool) (r : L2.R2) (g : O2) : Prop := ∀ (rho : List Addr) (H : Hp) (h : Hs) (a b : A) (x y : L2.V) (W : Value → Option Addr → Hp → Prop) (Q : VK), HR K mg rho H h → RV K mg rho H a x → RV K mg rho H b y → c a h = k → PostV K mg rho H W Q (g a b h) → r x y H Q
theorem rf_ixs : Rf2c K mg (fun a h => isDict h a) false (L2.rIx K) ixA := by
  intro rho H h a b x y W Q hr ra rb hc p
  unfold ixA at p
  rw [if_neg (by rw [show isDict h a = false from hc]; exact Bool.false_ne_true)] at p
  split at p
  · cases ra; cases rb
    split at p
    · rename_i hz
      split at p
      · rename_i c e
        exact .inr (.inr ⟨_, _, c, rfl, rfl, hz, e, p.here hr (.str _)⟩)
      · exact p.elim
    · exact p.elim
  · cases rb
    split at p
    · rename_i xs e
      obtain ⟨q, vs, rfl, r1, hq⟩ := seqOf_get hr e ra
      split at p
      · rename_i c e2
        obtain ⟨v, e3, rv⟩ := r1.atI e2
        rcases hq with hq | hq
        · exact .inl ⟨q, vs, _, v, rfl, rfl, hq, e3, p.here hr rv⟩
        · exact .inr (.inl ⟨q, vs, _, v, rfl, rfl, hq, e3, p.here hr rv⟩)
      · exact p.elim
    · exact p.elim
  · exact p.elim
def rDGet : L2.R2 := fun x y H Q => ∃ a v, x = .ref a ∧ L2.DGet H a y (some v) ∧ Q v H
theorem rf_ixd : Rf2c K mg (fun a h => isDict h a) true rDGet ixA := by
  intro rho H h a b x y W Q hr ra rb hc p
  unfold ixA at p
  rw [if_pos (show isDict h a = true from hc)] at p
  split at p
  · rename_i c e
    obtain ⟨pp, ov, rfl, g, hh⟩ := dgetA_get hr e ra rb
    rcases hh with ⟨z, _⟩ | ⟨c', v, e1, e2, r⟩
    · cases z
    · cases e1; subst e2
      exact ⟨pp, v, rfl, g, p.here hr r⟩
  · exact p.elim
end
/-- the first operand's kind, behind both operands, as the function tells it -/
def kindOf2 (c : A → Hs → Bool) (fa fb : DE) (n : Nat) (s : Sl) (h : Hs) : Bool := match fa n s h with
  | .ok a h1 => match fb n s h1 with
    | .ok _ h2 => c a h2
    | _ => false
  | _ => false
section
variable {X : Cx} {W : WX} {e a b c : Expr} {pos : Pos} {fa fb fc : DE} {g : O2} {r r' : L2.R2}
theorem tOp_one {cc : A → Hs → Bool} {k : Bool} (rf : Rf2c X.K X.mg cc k r g) {sg : L2.St} {H : Hp} {Q : VK} {n : Nat} {rho : List Addr} {s : Sl} {h : Hs} (hk : kindOf2 cc fa fb n s h = k) (hr : HR X.K X.mg rho H h) (l : SlR X.K X.mg rho H s sg)
    (p : PostV X.K X.mg rho H (fun c d H' => W c d sg H') Q (bin2 g fa fb n s h)) : L2.tOp r (tE X.K X.mg W fa) (tE X.K X.mg W fb) sg H Q := by
  refine ⟨n, rho, s, h, hr, l, Post.bindE p fun x h1 v rho1 H1 q1 n1 hr1 r1 p1 => ?_⟩
  refine ⟨n, rho1, s, h1, hr1, l.mono hr n1, Post.bindE p1 fun y h2 u rho2 H2 q2 n2 hr2 r2 p2 => ?_⟩
  refine rf rho2 H2 h2 x y v u _ Q hr2 (r1.mono hr1 n2) r2 ?_ p2
  rw [← hk]
  unfold kindOf2
  rw [q1]
  dsimp only
  rw [q2]
theorem tOp_two {cc : A → Hs → Bool} (rf : Rf2c X.K X.mg cc false r g) (rf' : Rf2c X.K X.mg cc true r' g) : ∀ sg H Q, tE X.K X.mg W (bin2 g fa fb) sg H Q →
    L2.tOp r (tE X.K X.mg W fa) (tE X.K X.mg W fb) sg H Q ∨ L2.tOp r' (tE X.K X.mg W fa) (tE X.K X.mg W fb) sg H Q := fun sg H Q w => by
  obtain ⟨n, rho, s, h, hr, l, p⟩ := w
  cases q : kindOf2 cc fa fb n s h with
  | false => exact .inl (tOp_one rf q hr l p)
  | true => exact .inr (tOp_one rf' q hr l p)
theorem d_ix (hu : X.A.units + 1 < cLine) (ha : PEd X W a fa) (hb : PEd X W b fb) (hs : L2.PlainIx b := by intro _ _; rfl) (hs2 : L2.NoSl b := by intro _ _; rfl) : PEd X W (.Subscript a b pos) (bin2 ixA fa fb) :=
  pe_weak (pe_or (L2.pe_ix L2.ix_seq ha hb hs) (L2.pe_dget hu ha hb hs2)) fun sg H Q w => tOp_two rf_ixs rf_ixd sg H Q w
end

/-! ### in, not in: sequences, texts, dicts -/
def inA (neg : Bool) : O2 := fun a b h => if isDict h b then (match dgetA h b a with
    | some o => .ok (.bl (if neg then !o.isSome else o.isSome)) h
    | none => .no)
  else inSeq neg a b h
def kindOf2b (c : A → Hs → Bool) (fa fb : DE) (n : Nat) (s : Sl) (h : Hs) : Bool := match fa n s h with
  | .ok _ h1 => match fb n s h1 with
    | .ok b h2 => c b h2
    | _ => false
  | _ => false
def Rf2d (K : PySem.W.Frag) (mg : Str → Option Value) (c : A → Hs → Bool) (k : Bool) (r : L2.R2) (g : O2) : Prop := ∀ (rho : List Addr) (H : Hp) (h : Hs) (a b : A) (x y : L2.V) (W : Value → Option Addr → Hp → Prop) (Q : VK), HR K mg rho H h → RV K mg rho H a x → RV K mg rho H b y → c b h = k → PostV K mg rho H W Q (g a b h) → r x y H Q
section
variable {K : PySem.W.Frag} {mg : Str → Option Value}
def rDIn (neg : Bool) : L2.R2 := fun y x H Q => ∃ a o, x = .ref a ∧ L2.DGet H a y o ∧ Q (.bl (if neg then !o.isSome else o.isSome)) H
theorem rf_ins {neg : Bool} : Rf2d K mg (fun a h => isDict h a) false (rInA K neg) (inA neg) := by
  intro rho H h a b x y W Q hr ra rb hc p
  unfold inA at p
  rw [if_neg (by rw [show isDict h b = false from hc]; exact Bool.false_ne_true)] at p
  exact rf_in rho H h a b x y W Q hr ra rb p
theorem rf_ind {neg : Bool} : Rf2d K mg (fun a h => isDict h a) true (rDIn neg) (inA neg) := by
  intro rho H h a b x y W Q hr ra rb hc p
  unfold inA at p
  rw [if_pos (show isDict h b = true from hc)] at p
  split at p
  · rename_i o e
    obtain ⟨pp, ov, rfl, g, hh⟩ := dgetA_get hr e rb ra
    refine ⟨pp, ov, rfl, g, ?_⟩
    rcases hh with ⟨rfl, rfl⟩ | ⟨c', v, rfl, rfl, r⟩
    · exact p.here hr (.bl _)
    · exact p.here hr (.bl _)
  · exact p.elim
end
section
variable {X : Cx} {W : WX} {e a b c : Expr} {pos : Pos} {fa fb fc : DE} {g : O2} {r r' : L2.R2}
theorem tOp_oneb {cc : A → Hs → Bool} {k : Bool} (rf : Rf2d X.K X.mg cc k r g) {sg : L2.St} {H : Hp} {Q : VK} {n : Nat} {rho : List Addr} {s : Sl} {h : Hs} (hk : kindOf2b cc fa fb n s h = k) (hr : HR X.K X.mg rho H h) (l : SlR X.K X.mg rho H s sg)
    (p : PostV X.K X.mg rho H (fun c d H' => W c d sg H') Q (bin2 g fa fb n s h)) : L2.tOp r (tE X.K X.mg W fa) (tE X.K X.mg W fb) sg H Q := by
  refine ⟨n, rho, s, h, hr, l, Post.bindE p fun x h1 v rho1 H1 q1 n1 hr1 r1 p1 => ?_⟩
  refine ⟨n, rho1, s, h1, hr1, l.mono hr n1, Post.bindE p1 fun y h2 u rho2 H2 q2 n2 hr2 r2 p2 => ?_⟩
  refine rf rho2 H2 h2 x y v u _ Q hr2 (r1.mono hr1 n2) r2 ?_ p2
  rw [← hk]
  unfold kindOf2b
  rw [q1]
  dsimp only
  rw [q2]
theorem tOp_twob {cc : A → Hs → Bool} (rf : Rf2d X.K X.mg cc false r g) (rf' : Rf2d X.K X.mg cc true r' g) : ∀ sg H Q, tE X.K X.mg W (bin2 g fa fb) sg H Q →
    L2.tOp r (tE X.K X.mg W fa) (tE X.K X.mg W fb) sg H Q ∨ L2.tOp r' (tE X.K X.mg W fa) (tE X.K X.mg W fb) sg H Q := fun sg H Q w => by
  obtain ⟨n, rho, s, h, hr, l, p⟩ := w
  cases q : kindOf2b cc fa fb n s h with
  | false => exact .inl (tOp_oneb rf q hr l p)
  | true => exact .inr (tOp_oneb rf' q hr l p)
theorem d_in (hu : X.A.units + 1 < cLine) (ha : PEd X W a fa) (hb : PEd X W b fb) (hm : behindInMarks .In b = false := by rfl) : PEd X W (.Compare a [.In] [b] pos) (bin2 (inA false) fa fb) :=
  pe_weak (pe_or (L2.pe_cmpR op_inA ha hb hm) (L2.pe_cmp (L2.pc_din hu ha hb) hm)) fun sg H Q w => tOp_twob rf_ins rf_ind sg H Q w
theorem d_nin (hu : X.A.units + 1 < cLine) (ha : PEd X W a fa) (hb : PEd X W b fb) (hm : behindInMarks .NotIn b = false := by rfl) : PEd X W (.Compare a [.NotIn] [b] pos) (bin2 (inA true) fa fb) :=
  pe_weak (pe_or (L2.pe_cmpR op_ninA ha hb hm) (L2.pe_cmp (L2.pc_dnotin hu ha hb) hm)) fun sg H Q w => tOp_twob rf_ins rf_ind sg H Q w
theorem pt_or {t t' : L2.TT} (h : PT X e t) (h' : PT X e t') : PT X e (fun sg H Q => t sg H Q ∨ t' sg H Q) := ⟨fun pins s sg H Q I w => w.elim (h.run pins s sg H Q I) (h'.run pins s sg H Q I)⟩
theorem t_in (hu : X.A.units + 1 < cLine) (ha : PEd X W a fa) (hb : PEd X W b fb) (hm : behindInMarks .In b = false := by rfl) : PTd X W (.Compare a [.In] [b] pos) (testD (bin2 (inA false) fa fb)) := by
  refine pt_weak (pt_or (L2.pt_cmpR op_inA ha hb hm) (L2.pt_cmp (L2.pc_din hu ha hb) hm)) fun sg H Q w => ?_
  obtain ⟨n, rho, s, hh, hr, l, p⟩ := w
  exact tOp_twob rf_ins rf_ind sg H _ ⟨n, rho, s, hh, hr, l, Post.tb p⟩
theorem t_nin (hu : X.A.units + 1 < cLine) (ha : PEd X W a fa) (hb : PEd X W b fb) (hm : behindInMarks .NotIn b = false := by rfl) : PTd X W (.Compare a [.NotIn] [b] pos) (testD (bin2 (inA true) fa fb)) := by
  refine pt_weak (pt_or (L2.pt_cmpR op_ninA ha hb hm) (L2.pt_cmp (L2.pc_dnotin hu ha hb) hm)) fun sg H Q w => ?_
  obtain ⟨n, rho, s, hh, hr, l, p⟩ := w
  exact tOp_twob rf_ins rf_ind sg H _ ⟨n, rho, s, hh, hr, l, Post.tb p⟩
end

/-! ### slices -/
abbrev DO := Nat → Sl → Hs → R (Option Int)
def noneD : DO := fun _ _ h => .ok none h
def someD (f : DE) : DO := fun n s h => (f n s h).bind fun a h1 => match a with
  | .int i => .ok (some i) h1
  | _ => .no
def tO (K : PySem.W.Frag) (mg : Str → Option Value) (W : WX) (f : DO) : L2.TO := fun sg H Q => ∃ n rho s h, HR K mg rho H h ∧ SlR K mg rho H s sg ∧ Post K mg (fun _ _ a b => a = b) rho H (fun c d H' => W c d sg H') Q (f n s h)
abbrev POd (X : Cx) (W : WX) (e : Option Expr) (f : DO) : Prop := L2.PO X e (tO X.K X.mg W f)
def cutA {b : Type} (xs : List b) (lo hi : Option Int) : List b := (xs.drop (HT.sIx xs.length 0 lo)).take (HT.sIx xs.length xs.length hi - HT.sIx xs.length 0 lo)
def slA (a : A) (lo hi : Option Int) (h : Hs) : R A := match a with
  | .str z => if z.length ≤ sizeLine then .ok (.str (L2.cutS z lo hi)) h else .no
  | .tup xs => .ok (.tup (cutA xs lo hi)) h
  | a => match lsOf h a with
    | some xs => newL (cutA xs lo hi) h
    | none => .no
def sliceD (f : DE) (fl fh : DO) : DE := fun n s h => (f n s h).bind fun a h1 => (fl n s h1).bind fun lo h2 => (fh n s h2).bind fun hi h3 => slA a lo hi h3
section
variable {K : PySem.W.Frag} {mg : Str → Option Value} {rho rho' : List Addr} {H H' : Hp} {h h' : Hs}
theorem RVs.cut {as : List A} {vs : List L2.V} (r : RVs K mg rho H as vs) (lo hi : Option Int) : RVs K mg rho H (cutA as lo hi) (L2.cutV vs lo hi) := by
  unfold cutA L2.cutV
  rw [r.length]
  exact (r.drop _).take _
def rSl3 (K : PySem.W.Frag) : L2.V → Option Int → Option Int → Hp → VK → Prop := fun x lo hi H Q => L2.rSlS x lo hi H Q ∨ (L2.rSlA K x lo hi H Q ∨ L2.rSlL K x lo hi H Q)
theorem sl_3 {X : Cx} : L2.SlR X (rSl3 X.K) := L2.sl_str.or (L2.sl_tupA.or L2.sl_list)
theorem rf_sl (hr : HR K mg rho H h) {a : A} {x : L2.V} {lo hi : Option Int} {W : Value → Option Addr → Hp → Prop} {Q : VK} (ra : RV K mg rho H a x) (p : PostV K mg rho H W Q (slA a lo hi h)) : rSl3 K x lo hi H Q := by
  unfold slA at p
  split at p
  · cases ra
    split at p
    · rename_i hz
      exact .inl ⟨_, rfl, hz, p.here hr (.str _)⟩
    · exact p.elim
  · cases ra with
    | tup ha r1 =>
      rename_i xs a vs
      refine .inr (.inl ⟨_, _, rfl, .of ha, fun e => ?_, fun _ => newT_ok hr p (r1.cut lo hi)⟩)
      have e2 : cutA xs lo hi = xs := by
        unfold cutA
        rw [r1.length, e.1, e.2, List.drop_zero, Nat.sub_zero, ← r1.length]
        exact List.take_length
      rw [e2] at p
      exact p.here hr (.tup ha r1)
  · split at p
    · rename_i xs e
      obtain ⟨q, vs, rfl, r1, hq⟩ := lsOf_get hr e ra
      exact .inr (.inr ⟨q, vs, rfl, hq, newL_ok hr p (r1.cut lo hi)⟩)
    · exact p.elim
end
section
variable {X : Cx} {W : WX} {e : Expr} {lo hi : Option Expr} {pos p2 : Pos} {fe : DE} {fl fh : DO}
theorem o_none : POd X W none noneD := ⟨fun pins s sg H Q I w => by
  obtain ⟨n, rho, sl, h, hr, l, p⟩ := w
  exact L2.po_none.run pins s sg H Q I (p none rho H Nx.refl hr rfl)⟩
theorem o_some (hf : PEd X W e fe) : POd X W (some e) (someD fe) := ⟨fun pins s sg H Q I w => by
  obtain ⟨n, rho, sl, h, hr, l, p⟩ := w
  refine (L2.po_some hf).run pins s sg H Q I ⟨n, rho, sl, h, hr, l, Post.bind p fun a h1 v rho1 H1 n1 hr1 r1 p1 => ?_⟩
  cases a with
  | int i => cases r1; exact ⟨i, rfl, p1 _ rho1 H1 Nx.refl hr1 rfl⟩
  | _ => exact p1.elim⟩
theorem d_slice (he : PEd X W e fe) (hl : POd X W lo fl) (hu : POd X W hi fh) : PEd X W (.Subscript e (.Slice lo hi none p2) pos) (sliceD fe fl fh) := by
  refine pe_weak (L2.pe_slice sl_3 he hl hu) fun sg H Q w => ?_
  obtain ⟨n, rho, s, h, hr, l, p⟩ := w
  refine ⟨n, rho, s, h, hr, l, Post.bind p fun a h1 v rho1 H1 n1 hr1 r1 p1 => ?_⟩
  refine ⟨n, rho1, s, h1, hr1, l.mono hr n1, Post.bind p1 fun lo h2 lo' rho2 H2 n2 hr2 r2 p2 => ?_⟩
  subst r2
  refine ⟨n, rho2, s, h2, hr2, (l.mono hr n1).mono hr1 n2, Post.bind p2 fun hi h3 hi' rho3 H3 n3 hr3 r3 p3 => ?_⟩
  subst r3
  exact rf_sl hr3 ((r1.mono hr1 n2).mono hr2 n3) p3
end
end Dn

set_option maxHeartbeats 4000000
/-! Dn6: calls of built-ins. -/
namespace Dn
open PySem
open L2 (PE PT PA PS PSs PG PGs PI Cx WX Takes HO Hp VK)

/-! ### sorted of a tuple of ints -/
section
open PyProof.Rows
variable {prog : Program} {w : World} {A' : Around} {E : Value → Shared → Prop} {s : Shared}
theorem collect_tp {l : Addr} {vs : List Value} {Q : List Value → Shared → Prop} (hl : IsTup s.heap l vs.toArray) (hz : vs.length ≤ sizeLine)
    (hq : Q vs { s with heap := (s.heap.push (seqObj "list" #[] 0)).update s.heap.objs.size (Obj.mapSeq (fun z => z ++ vs.toArray)) }) : wpAny (model prog w) A' (collect (.ref l)) Q E s := by
  obtain ⟨ob, hob, hcl, cnt, hdt⟩ := id hl
  have hnew : (s.heap.push (seqObj "list" #[] 0)).get? s.heap.objs.size = some (seqObj "list" #[] 0) := Heap.get?_push_size _ rfl
  have hold : (s.heap.push (seqObj "list" #[] 0)).get? l = some ob := Heap.get?_push_of_some _ hob
  unfold collect
  apply wpAny_bind
  apply wpAny_runValue
  apply codeAny_builtin entry_proto_collect'
  show wpAny _ _ (do again (.builtin "list.__iadd__" ⟨[(← newList []), .ref l], []⟩)) _ _ s
  apply wpAny_bind
  refine wpAny_newList ?_
  · refine wpAny_pure ⟨Code.quiet_builtin _ (by decide +kernel), codeAny_builtin entry_list_iadd' ?_⟩
    show wpAny _ _ (Builtin.List.listExtendWith (.ref s.heap.objs.size) (.ref l) (.ref s.heap.objs.size)) _ _ ⟨s.heap.push (seqObj "list" #[] 0), s.gens, s.drawn, s.toks, s.os⟩
    unfold Builtin.List.listExtendWith
    apply wpAny_bind
    refine wpAny_typeOf (T := "tuple") ⟨ob, hold, hcl⟩ ?_
    rw [if_pos (by rw [show (Value.type "tuple" == Value.type "tuple") = true from rfl, Bool.or_true])]
    apply wpAny_bind
    refine listItems_at hold hdt ?_
    apply wpAny_bind
    refine listItems_at (xs := #[]) (n := 0) hnew rfl ?_
    rw [if_neg (by simp)]
    apply wpAny_bind
    refine listUpdate_at (xs := #[]) (n := 0) hnew rfl ?_ (Nat.zero_le _) (by show (#[] ++ vs.toArray).size ≤ sizeLine + 1; rw [Array.size_append]; simp only [List.size_toArray, List.length_nil]; omega)
    apply wpAny_pure
    show wpAny (model prog w) A' (do
      let z ← load s.heap.objs.size
      match z.data with
      | .seq ys _ => pure ys.toList
      | _ => unsupported "internal:collect") Q E ⟨(s.heap.push (seqObj "list" #[] 0)).update s.heap.objs.size (Obj.mapSeq (fun z => z ++ vs.toArray)), s.gens, s.drawn, s.toks, s.os⟩
    apply wpAny_bind
    apply wpAny_load (get?_update_seq hnew _)
    show wpAny _ _ (pure ((#[] : Array Value) ++ vs.toArray).toList) Q E _
    have e : ((#[] : Array Value) ++ vs.toArray).toList = vs := by simp
    rw [e]
    exact wpAny_pure hq
theorem sorted_tp {l : Addr} {vs : List Value} {ltv : Value → Value → Bool} {Q : Value → Shared → Prop} (O : SrtO.Swo ltv) (hl : IsTup s.heap l vs.toArray) (hz : vs.length ≤ sizeLine)
    (hS : 2 ≤ vs.length → ∀ (h₁ : Heap) (a : Addr), h₁.get? a = some (seqObj "list" vs.toArray 0) → (∀ b o, s.heap.get? b = some o → b ≠ a ∧ h₁.get? b = some o) → SrtO.SortableO prog w A'.in1.in1 { s with heap := h₁ } a vs ltv)
    (hq : ∀ out : List Value, SrtO.Srtd ltv out → SrtO.Stb ltv out vs → Q (.ref (s.heap.objs.size + 1)) { s with heap := sortedAll s.heap vs out.toArray }) :
    wpAny (model prog w) A' (call (.builtin "sorted") [.ref l]) Q E s := by
  apply Calls.call_function_entry kind_sorted plain_sorted entry_sorted (args_sorted1 _)
  unfold Builtin.«sorted»
  apply wpAny_bind (m := checkCount "sorted" 1 1 _)
  apply wpAny_pure
  apply wpAny_bind
  apply collect_tp hl hz
  apply wpAny_bind
  refine wpAny_newList ?_ hz
  generalize hG : (s.heap.push (seqObj "list" #[] 0)).update s.heap.objs.size (Obj.mapSeq (fun z => z ++ vs.toArray)) = G
  have hGs : G.objs.size = s.heap.objs.size + 1 := by rw [← hG, Heap.size_update, size_push']
  have hGk : ∀ b o, s.heap.get? b = some o → G.get? b = some o := fun b o q => by
    rw [← hG, Heap.get?_update_ne _ _ _ _ (Nat.ne_of_lt (Heap.lt_size q))]
    exact Heap.get?_push_of_some _ q
  have hGn : (G.push (seqObj "list" vs.toArray 0)).get? (s.heap.objs.size + 1) = some (seqObj "list" vs.toArray 0) := by
    have z := Heap.get?_push_size G (o := seqObj "list" vs.toArray 0) rfl
    rw [hGs] at z
    exact z
  have keep : ∀ b o, s.heap.get? b = some o → b ≠ s.heap.objs.size + 1 ∧ (G.push (seqObj "list" vs.toArray 0)).get? b = some o := fun b o q =>
    ⟨Nat.ne_of_lt (Nat.lt_succ_of_lt (Heap.lt_size q)), Heap.get?_push_of_some _ (hGk b o q)⟩
  show wpAny _ _ _ _ _ { s with heap := G.push (seqObj "list" vs.toArray 0) }
  rw [hGs]
  apply wpAny_bind
  apply wpAny_holding
  refine wpAny_call_entry slot_list_sort ⟨_, hGn, rfl⟩ entry_list_sort (SrtO.list_sort_ord O hGn hz (fun h2 => hS h2 _ _ hGn keep) fun out h1 h2 => ⟨_, rfl, ?_⟩) (args_list_sort _)
  refine wpAny_pure ⟨_, rfl, ?_⟩
  have z := hq out h1 h2
  unfold sortedAll at z
  rw [show (s.heap.push (seqObj "list" #[] 0)).update s.heap.objs.size (Obj.mapSeq (fun x => x ++ vs.toArray)) = G from hG] at z
  exact z
end
/-! ### calls of built-ins by name -/
def cbD (g : List A → Hs → R A) (f : DA) : DE := fun n s h => (f n s h).bind fun as h1 => g as h1
section
variable {X : Cx} {W : WX} {e : Expr} {es : List Expr} {pos p : Pos} {f : DA} {r : List L2.V → Hp → VK → Prop} {g : List A → Hs → R A} {x : Str}
theorem tCB_of (rf : RfL X.K X.mg r g) : ∀ sg H Q, tE X.K X.mg W (cbD g f) sg H Q → L2.tCB r (tA X.K X.mg W f) sg H Q := fun sg H Q w => by
  obtain ⟨n, rho, s, h, hr, l, p⟩ := w
  exact ⟨n, rho, s, h, hr, l, Post.bind p fun as h1 vs rho1 H1 n1 hr1 r1 p1 => rf rho1 H1 h1 as vs _ Q hr1 r1 p1⟩
theorem d_cb {id : String} (hc : L2.CallR X (.builtin id) r) (rf : RfL X.K X.mg r g) (hg : L2.Gl X x) (hm : X.mg x = none) (hv : bootBuiltins x = some (.builtin id)) (ha : PAd X W (e :: es) f) (hn : x ≠ "__name__" := by decide) (hdb : (x == ("__debug__" : Str)) = false := by decide)
    (he : starEach (e :: es) X.env = (false, eval e X.env) :: starEach es X.env := by rfl) (hpl : (backTo pos (starEach es X.env)).any (·.1) = false := by rfl) : PEd X W (.Call (.Name x p) (e :: es) [] pos) (cbD g f) :=
  pe_weak (L2.pe_callB hc hg hm hv ha hn hdb he hpl) (tCB_of rf)
theorem d_ct {T : String} (hc : L2.CallR X (.type T) r) (rf : RfL X.K X.mg r g) (hg : L2.Gl X x) (hm : X.mg x = none) (hv : bootBuiltins x = some (.type T)) (ha : PAd X W (e :: es) f) (hn : x ≠ "__name__" := by decide) (hdb : (x == ("__debug__" : Str)) = false := by decide)
    (he : starEach (e :: es) X.env = (false, eval e X.env) :: starEach es X.env := by rfl) (hpl : (backTo pos (starEach es X.env)).any (·.1) = false := by rfl) : PEd X W (.Call (.Name x p) (e :: es) [] pos) (cbD g f) :=
  pe_weak (L2.pe_callTy hc hg hm hv ha hn hdb he hpl) (tCB_of rf)
end
/-- len -/
def lenA (h : Hs) (a : A) : Option Nat := match a with
  | .str x => if x.length ≤ sizeLine then some x.length else none
  | .tup xs => some xs.length
  | .rol xs => some xs.length
  | .ref n => match h[n]? with
    | some (.lst xs) => some xs.length
    | some (.dK kvs) => some kvs.length
    | _ => none
  | _ => none
def bLen : List A → Hs → R A := fun as h => match as with
  | [a] => match lenA h a with
    | some n => .ok (.int n) h
    | none => .no
  | _ => .no
def bAbs : List A → Hs → R A := fun as h => match as with
  | [.int i] => .ok (.int (if i < 0 then -i else i)) h
  | _ => .no
def maxL : Int → List Int → Int
  | m, [] => m
  | m, x :: xs => maxL (if x > m then x else m) xs
def minL : Int → List Int → Int
  | m, [] => m
  | m, x :: xs => minL (if x < m then x else m) xs
def bMax : List A → Hs → R A := fun as h => match as with
  | [.int i, .int j] => .ok (.int (if j > i then j else i)) h
  | [a] => match (lsOf h a).bind intsOf with
    | some (x :: xs) => .ok (.int (maxL x xs)) h
    | _ => .no
  | _ => .no
def bMin : List A → Hs → R A := fun as h => match as with
  | [.int i, .int j] => .ok (.int (if j < i then j else i)) h
  | [a] => match (lsOf h a).bind intsOf with
    | some (x :: xs) => .ok (.int (minL x xs)) h
    | _ => .no
  | _ => .no
def bSum : List A → Hs → R A := fun as h => match as with
  | [a] => match (lsOf h a).bind intsOf with
    | some xs => .ok (.int xs.sum) h
    | _ => .no
  | _ => .no
def bAny : List A → Hs → R A := fun as h => match as with
  | [a] => match (lsOf h a).bind blsOf with
    | some xs => .ok (.bl (xs.any id)) h
    | _ => .no
  | _ => .no
def bAll : List A → Hs → R A := fun as h => match as with
  | [a] => match (lsOf h a).bind blsOf with
    | some xs => .ok (.bl (xs.all id)) h
    | _ => .no
  | _ => .no
def bInt : List A → Hs → R A := fun as h => match as with
  | [.int i] => .ok (.int i) h
  | [.bl k] => .ok (.int (if k then 1 else 0)) h
  | [.str x] => match PySem.intText? x with
    | some n => if x.length ≤ 640 then .ok (.int n) h else .no
    | none => .no
  | _ => .no
def bStr : List A → Hs → R A := fun as h => match as with
  | [.int i] => if i.natAbs.log2 < 1920 then .ok (.str (toString i)) h else .no
  | _ => .no
def bList : List A → Hs → R A := fun as h => match as with
  | [a] => match seqOf h a with
    | some xs => newL xs h
    | none => .no
  | _ => .no
def bTuple : List A → Hs → R A := fun as h => match as with
  | [.tup xs] => .ok (.tup xs) h
  | [a] => match lsOf h a with
    | some xs => .ok (.tup xs) h
    | none => .no
  | _ => .no
def insI (x : Int) : List Int → List Int
  | [] => [x]
  | y :: ys => if x ≤ y then x :: y :: ys else y :: insI x ys
def sortI : List Int → List Int
  | [] => []
  | x :: xs => insI x (sortI xs)
def bSorted : List A → Hs → R A := fun as h => match as with
  | [a] => match (seqOf h a).bind intsOf with
    | some xs => newL ((sortI xs).map A.int) h
    | none => .no
  | _ => .no
theorem insI_perm (x : Int) : ∀ l, (insI x l).Perm (x :: l)
  | [] => .refl _
  | y :: ys => by
    rw [insI]
    split
    · exact .refl _
    · exact ((insI_perm x ys).cons y).trans (.swap x y ys)
theorem sortI_perm : ∀ l, (sortI l).Perm l
  | [] => .refl _
  | x :: xs => (insI_perm x _).trans ((sortI_perm xs).cons x)
theorem insI_sorted (x : Int) : ∀ l, l.Pairwise (· ≤ ·) → (insI x l).Pairwise (· ≤ ·)
  | [], _ => List.pairwise_singleton _ _
  | y :: ys, h => by
    rw [insI]
    have h' := List.pairwise_cons.mp h
    split
    · rename_i e
      refine List.pairwise_cons.mpr ⟨fun z hz => ?_, h⟩
      rcases List.mem_cons.mp hz with rfl | hz
      · exact e
      · exact Int.le_trans e (h'.1 z hz)
    · rename_i e
      refine List.pairwise_cons.mpr ⟨fun z hz => ?_, insI_sorted x ys h'.2⟩
      rcases List.mem_cons.mp ((insI_perm x ys).mem_iff.mp hz) with rfl | hz
      · omega
      · exact h'.1 z hz
theorem sortI_sorted : ∀ l, (sortI l).Pairwise (· ≤ ·)
  | [] => .nil
  | x :: xs => insI_sorted x _ (sortI_sorted xs)
theorem sorted_one {l m : List Int} (h : l.Perm m) (hl : l.Pairwise (· ≤ ·)) (hm : m.Pairwise (· ≤ ·)) : l = m := h.eq_of_pairwise (fun a b _ _ h1 h2 => Int.le_antisymm h1 h2) hl hm
theorem maxL_spec : ∀ (m : Int) (l : List Int), maxL m l ∈ m :: l ∧ ∀ y ∈ m :: l, y ≤ maxL m l
  | m, [] => ⟨List.mem_cons_self, fun y hy => by simp at hy; subst hy; exact Int.le_refl _⟩
  | m, x :: xs => by
    obtain ⟨h1, h2⟩ := maxL_spec (if x > m then x else m) xs
    rw [maxL]
    refine ⟨?_, fun y hy => ?_⟩
    · rcases List.mem_cons.mp h1 with e | h1
      · rw [e]; split
        · exact List.mem_cons_of_mem _ List.mem_cons_self
        · exact List.mem_cons_self
      · exact List.mem_cons_of_mem _ (List.mem_cons_of_mem _ h1)
    · have h0 := h2 _ List.mem_cons_self
      have h3 := fun y hy => h2 y (List.mem_cons_of_mem _ hy)
      generalize maxL (if x > m then x else m) xs = z at h0 h3 ⊢
      rcases List.mem_cons.mp hy with rfl | hy
      · split at h0 <;> omega
      · rcases List.mem_cons.mp hy with rfl | hy
        · split at h0 <;> omega
        · exact h3 y hy
theorem minL_spec : ∀ (m : Int) (l : List Int), minL m l ∈ m :: l ∧ ∀ y ∈ m :: l, minL m l ≤ y
  | m, [] => ⟨List.mem_cons_self, fun y hy => by simp at hy; subst hy; exact Int.le_refl _⟩
  | m, x :: xs => by
    obtain ⟨h1, h2⟩ := minL_spec (if x < m then x else m) xs
    rw [minL]
    refine ⟨?_, fun y hy => ?_⟩
    · rcases List.mem_cons.mp h1 with e | h1
      · rw [e]; split
        · exact List.mem_cons_of_mem _ List.mem_cons_self
        · exact List.mem_cons_self
      · exact List.mem_cons_of_mem _ (List.mem_cons_of_mem _ h1)
    · have h0 := h2 _ List.mem_cons_self
      have h3 := fun y hy => h2 y (List.mem_cons_of_mem _ hy)
      generalize minL (if x < m then x else m) xs = z at h0 h3 ⊢
      rcases List.mem_cons.mp hy with rfl | hy
      · split at h0 <;> omega
      · rcases List.mem_cons.mp hy with rfl | hy
        · split at h0 <;> omega
        · exact h3 y hy
section
variable {K : PySem.W.Frag} {mg : Str → Option Value} {rho rho' : List Addr} {H H' : Hp} {h h' : Hs}
theorem RVs.one {a : A} {vs : List L2.V} (r : RVs K mg rho H [a] vs) : ∃ v, vs = [v] ∧ RV K mg rho H a v := by
  cases r with
  | cons r1 r2 => cases r2; exact ⟨_, rfl, r1⟩
theorem RVs.two {a b : A} {vs : List L2.V} (r : RVs K mg rho H [a, b] vs) : ∃ v u, vs = [v, u] ∧ RV K mg rho H a v ∧ RV K mg rho H b u := by
  cases r with
  | cons r1 r2 => obtain ⟨u, rfl, r3⟩ := r2.one; exact ⟨_, _, rfl, r1, r3⟩
/-- a list of ints, seen from the hand layer -/
theorem ints_get (hr : HR K mg rho H h) {a : A} {ns : List Int} (e : (lsOf h a).bind intsOf = some ns) {v : L2.V} (r : RV K mg rho H a v) : ∃ p, v = .ref p ∧ L2.SqL K H p (ns.map L2.V.int) := by
  cases q : lsOf h a with
  | none => rw [q] at e; cases e
  | some xs =>
    rw [q] at e
    obtain ⟨p, vs, rfl, r1, hs⟩ := lsOf_get hr q r
    obtain rfl := intsOf_get e r1
    exact ⟨p, rfl, hs⟩
theorem bls_get (hr : HR K mg rho H h) {a : A} {ns : List Bool} (e : (lsOf h a).bind blsOf = some ns) {v : L2.V} (r : RV K mg rho H a v) : ∃ p, v = .ref p ∧ L2.SqL K H p (ns.map L2.V.bl) := by
  cases q : lsOf h a with
  | none => rw [q] at e; cases e
  | some xs =>
    rw [q] at e
    obtain ⟨p, vs, rfl, r1, hs⟩ := lsOf_get hr q r
    obtain rfl := blsOf_get e r1
    exact ⟨p, rfl, hs⟩
abbrev rLenD : List L2.V → Hp → VK → Prop := fun xs H Q => ∃ a kvs, xs = [L2.V.ref a] ∧ H a = some (.dK kvs) ∧ Q (.int kvs.length) H
def rLenA (K : PySem.W.Frag) : List L2.V → Hp → VK → Prop := fun xs H Q => (∃ x n, xs = [x] ∧ L2.LenV K x H n ∧ Q (.int n) H) ∨ rLenD xs H Q
theorem call_lenA {X : Cx} : L2.CallR X (.builtin "len") (rLenA X.K) := L2.call_len.or L2.call_lenD
theorem rf_len : RfL K mg (rLenA K) bLen := by
  intro rho H h as xs W Q hr ra p
  unfold bLen at p
  split at p
  · rename_i a
    obtain ⟨v, rfl, rv⟩ := ra.one
    split at p
    · rename_i n e
      unfold lenA at e
      cases rv with
      | str x =>
        dsimp only at e
        split at e
        · rename_i hz; cases e; exact .inl ⟨_, _, rfl, ⟨hz, rfl⟩, p.here hr (.int _)⟩
        · cases e
      | tup h1 h2 => cases e; exact .inl ⟨_, _, rfl, .inr ⟨_, .of h1, h2.length⟩, p.here hr (.int _)⟩
      | rol h1 h2 =>
        cases e
        refine .inl ⟨_, _, rfl, .inl ⟨_, ?_, h2.length⟩, p.here hr (.int _)⟩
        exact rol_sq h1
      | ref hp =>
        dsimp only at e
        split at e
        · rename_i xs q
          cases e
          obtain ⟨vs, h1, h2⟩ := hr.lst hp q
          exact .inl ⟨_, _, rfl, .inl ⟨_, .of h1, h2.length⟩, p.here hr (.int _)⟩
        · rename_i kvs q
          cases e
          obtain ⟨vs, h1, h2⟩ := hr.dK hp q
          rw [h2.length] at p
          exact .inr ⟨_, vs, rfl, h1, p.here hr (.int _)⟩
        · cases e
      | _ => cases e
    · exact p.elim
  · exact p.elim
theorem rf_abs : RfL K mg (fun xs H Q => ∃ i, xs = [.int i] ∧ Q (.int (if i < 0 then -i else i)) H) bAbs := by
  intro rho H h as xs W Q hr ra p
  unfold bAbs at p
  split at p
  · obtain ⟨v, rfl, rv⟩ := ra.one
    cases rv
    exact ⟨_, rfl, p.here hr (.int _)⟩
  · exact p.elim
abbrev rMax2 : List L2.V → Hp → VK → Prop := fun xs H Q => ∃ i j, xs = [.int i, .int j] ∧ Q (.int (if j > i then j else i)) H
abbrev rMin2 : List L2.V → Hp → VK → Prop := fun xs H Q => ∃ i j, xs = [.int i, .int j] ∧ Q (.int (if j < i then j else i)) H
def rMaxA (K : PySem.W.Frag) : List L2.V → Hp → VK → Prop := fun xs H Q => rMax2 xs H Q ∨ L2.rMax K xs H Q
def rMinA (K : PySem.W.Frag) : List L2.V → Hp → VK → Prop := fun xs H Q => rMin2 xs H Q ∨ L2.rMin K xs H Q
theorem call_maxA {X : Cx} (hc : X.calm = true) : L2.CallR X (.builtin "max") (rMaxA X.K) := (L2.call_max2 hc).or (L2.cr_max hc)
theorem call_minA {X : Cx} (hc : X.calm = true) : L2.CallR X (.builtin "min") (rMinA X.K) := (L2.call_min2 hc).or (L2.cr_min hc)
theorem rf_max : RfL K mg (rMaxA K) bMax := by
  intro rho H h as xs W Q hr ra p
  unfold bMax at p
  split at p
  · obtain ⟨v, u, rfl, rv, ru⟩ := ra.two
    cases rv; cases ru
    exact .inl ⟨_, _, rfl, p.here hr (.int _)⟩
  · obtain ⟨v, rfl, rv⟩ := ra.one
    split at p
    · rename_i x xs e
      obtain ⟨q, rfl, hs⟩ := ints_get hr e rv
      refine .inr ⟨q, _, rfl, hs, by simp, fun m h1 h2 => ?_⟩
      obtain ⟨k1, k2⟩ := maxL_spec x xs
      have e : m = maxL x xs := Int.le_antisymm (k2 m h1) (h2 _ k1)
      rw [e]
      exact p.here hr (.int _)
    · exact p.elim
  · exact p.elim
theorem rf_min : RfL K mg (rMinA K) bMin := by
  intro rho H h as xs W Q hr ra p
  unfold bMin at p
  split at p
  · obtain ⟨v, u, rfl, rv, ru⟩ := ra.two
    cases rv; cases ru
    exact .inl ⟨_, _, rfl, p.here hr (.int _)⟩
  · obtain ⟨v, rfl, rv⟩ := ra.one
    split at p
    · rename_i x xs e
      obtain ⟨q, rfl, hs⟩ := ints_get hr e rv
      refine .inr ⟨q, _, rfl, hs, by simp, fun m h1 h2 => ?_⟩
      obtain ⟨k1, k2⟩ := minL_spec x xs
      have e : m = minL x xs := Int.le_antisymm (h2 _ k1) (k2 m h1)
      rw [e]
      exact p.here hr (.int _)
    · exact p.elim
  · exact p.elim
theorem rf_sum : RfL K mg (L2.rSum K) bSum := by
  intro rho H h as xs W Q hr ra p
  unfold bSum at p
  split at p
  · obtain ⟨v, rfl, rv⟩ := ra.one
    split at p
    · rename_i xs e
      obtain ⟨q, rfl, hs⟩ := ints_get hr e rv
      exact ⟨q, _, rfl, hs, p.here hr (.int _)⟩
    · exact p.elim
  · exact p.elim
theorem rf_any : RfL K mg (L2.rAny K) bAny := by
  intro rho H h as xs W Q hr ra p
  unfold bAny at p
  split at p
  · obtain ⟨v, rfl, rv⟩ := ra.one
    split at p
    · rename_i xs e
      obtain ⟨q, rfl, hs⟩ := bls_get hr e rv
      exact ⟨q, _, rfl, hs, p.here hr (.bl _)⟩
    · exact p.elim
  · exact p.elim
theorem rf_all : RfL K mg (L2.rAll K) bAll := by
  intro rho H h as xs W Q hr ra p
  unfold bAll at p
  split at p
  · obtain ⟨v, rfl, rv⟩ := ra.one
    split at p
    · rename_i xs e
      obtain ⟨q, rfl, hs⟩ := bls_get hr e rv
      exact ⟨q, _, rfl, hs, p.here hr (.bl _)⟩
    · exact p.elim
  · exact p.elim
abbrev rInt1 : List L2.V → Hp → VK → Prop := fun xs H Q => (∃ i, xs = [.int i] ∧ Q (.int i) H) ∨ ∃ k, xs = [.bl k] ∧ Q (.int (if k then 1 else 0)) H
abbrev rIntS : List L2.V → Hp → VK → Prop := fun xs H Q => ∃ a n, xs = [.str a] ∧ PySem.intText? a = some n ∧ a.length ≤ 640 ∧ Q (.int n) H
def rIntA : List L2.V → Hp → VK → Prop := fun xs H Q => rInt1 xs H Q ∨ rIntS xs H Q
theorem call_intA {X : Cx} : L2.CallR X (.type "int") rIntA := L2.call_int1.or L2.call_int_str
theorem rf_intA : RfL K mg rIntA bInt := by
  intro rho H h as xs W Q hr ra p
  unfold bInt at p
  split at p
  · obtain ⟨v, rfl, rv⟩ := ra.one
    cases rv
    exact .inl (.inl ⟨_, rfl, p.here hr (.int _)⟩)
  · obtain ⟨v, rfl, rv⟩ := ra.one
    cases rv
    exact .inl (.inr ⟨_, rfl, p.here hr (.int _)⟩)
  · obtain ⟨v, rfl, rv⟩ := ra.one
    cases rv
    split at p
    · rename_i n e
      split at p
      · rename_i hz
        exact .inr ⟨_, n, rfl, e, hz, p.here hr (.int _)⟩
      · exact p.elim
    · exact p.elim
  · exact p.elim
theorem rf_str : RfL K mg (fun xs H Q => ∃ i, xs = [.int i] ∧ i.natAbs.log2 < 1920 ∧ Q (.str (toString i)) H) bStr := by
  intro rho H h as xs W Q hr ra p
  unfold bStr at p
  split at p
  · obtain ⟨v, rfl, rv⟩ := ra.one
    cases rv
    split at p
    · rename_i hz
      exact ⟨_, rfl, hz, p.here hr (.str _)⟩
    · exact p.elim
  · exact p.elim
theorem rf_list : RfL K mg (fun xs H Q => ∃ p ys, xs = [.ref p] ∧ (L2.SqL K H p ys ∨ L2.SqT K H p ys) ∧ ∀ l, H l = none → Q (.ref l) (L2.upd H l (.lst ys))) bList := by
  intro rho H h as xs W Q hr ra p
  unfold bList at p
  split at p
  · obtain ⟨v, rfl, rv⟩ := ra.one
    split at p
    · rename_i xs e
      obtain ⟨q, vs, rfl, r1, hs⟩ := seqOf_get hr e rv
      exact ⟨q, vs, rfl, hs, newL_ok hr p r1⟩
    · exact p.elim
  · exact p.elim
theorem rf_tuple : RfL K mg (fun xs H Q => ∃ p ys, xs = [.ref p] ∧ ((L2.SqL K H p ys ∧ ∀ l, H l = none → Q (.ref l) (L2.upd H l (.tup ys))) ∨ (L2.SqT K H p ys ∧ Q (.ref p) H))) bTuple := by
  intro rho H h as xs W Q hr ra p
  unfold bTuple at p
  split at p
  · obtain ⟨v, rfl, rv⟩ := ra.one
    cases rv with
    | tup h1 h2 => exact ⟨_, _, rfl, .inr ⟨.of h1, p.here hr (.tup h1 h2)⟩⟩
  · obtain ⟨v, rfl, rv⟩ := ra.one
    split at p
    · rename_i xs e
      obtain ⟨q, vs, rfl, r1, hs⟩ := lsOf_get hr e rv
      exact ⟨q, vs, rfl, .inl ⟨hs, newT_ok hr p r1⟩⟩
    · exact p.elim
  · exact p.elim
/-- sorted: ints of a list or of a tuple -/
def rSortedT (K : PySem.W.Frag) : List L2.V → Hp → VK → Prop := fun vs H Q => ∃ (a : Addr) (ns : List Int), vs = [L2.V.ref a] ∧ L2.SqT K H a (ns.map L2.V.int) ∧
  ∀ (ns' : List Int) (p : Addr), ns'.Perm ns → ns'.Pairwise (· ≤ ·) → H p = none → Q (.ref p) (L2.upd H p (.lst (ns'.map L2.V.int)))
open L2 in
theorem cr_sortedT {X : Cx} : L2.CallR X (.builtin "sorted") (rSortedT X.K) := by
  intro pins s σ H vs us Q I r h
  obtain ⟨a, ns, rfl, hs, q⟩ := h
  obtain ⟨its, rv, ht, hz⟩ := I.tuple hs
  have hi := rv.ints
  have hlen : its.length ≤ sizeLine := by rw [← rv.length]; exact hz
  cases Vals.ref1 r
  refine sorted_tp SrtO.swo_int ht hlen (fun h2 h₁ a' _ _ => SrtO.ints_sortable hi h2) fun out h1 h2 => ?_
  obtain ⟨k1, k2, k3⟩ := SrtO.ints_out hi h1 h2
  obtain ⟨ep, he'⟩ := PyProof.Rows.sortedAll_at s.heap its out.toArray
  have hl2 : ((out.map SrtO.iv).map V.int).length ≤ sizeLine := by
    rw [List.length_map, k2.length_eq, ← List.length_map (f := V.int)]
    exact hz
  refine ⟨.ref _, upd H (s.heap.objs.size + 1) (.lst ((out.map SrtO.iv).map V.int)), ?_, rfl, q _ _ k2 k3 (I.hok.fresh (Nat.le_succ _))⟩
  exact I.laid (t' := s.toks) (fun _ _ z => PyProof.Rows.sortedAll_old z) (Nat.le_succ _) ⟨hl2, out, ep, vals_of_ints k1, he'⟩
def rSortedA (K : PySem.W.Frag) : List L2.V → Hp → VK → Prop := fun xs H Q => L2.rSortedI K xs H Q ∨ rSortedT K xs H Q
theorem call_sortedA {X : Cx} : L2.CallR X (.builtin "sorted") (rSortedA X.K) := L2.cr_sortedI.or cr_sortedT
theorem rf_sorted : RfL K mg (rSortedA K) bSorted := by
  intro rho H h as xs W Q hr ra p
  unfold bSorted at p
  split at p
  · rename_i a
    obtain ⟨v, rfl, rv⟩ := ra.one
    split at p
    · rename_i ns e
      cases q : seqOf h a with
      | none => rw [q] at e; cases e
      | some ys =>
        rw [q] at e
        obtain ⟨t, vs, rfl, r1, hs⟩ := seqOf_get hr q rv
        obtain rfl := intsOf_get e r1
        have fin : ∀ (ns' : List Int) (p : Addr), ns'.Perm ns → ns'.Pairwise (· ≤ ·) → H p = none → Q (.ref p) (L2.upd H p (.lst (ns'.map L2.V.int))) := fun ns' z h1 h2 hz => by
          rw [sorted_one (h1.trans (sortI_perm ns).symm) h2 (sortI_sorted ns)]
          exact newL_ok hr p (RVs.ints _) z hz
        rcases hs with hs | hs
        · exact .inl ⟨t, ns, rfl, hs, fin⟩
        · exact .inr ⟨t, ns, rfl, hs, fin⟩
    · exact p.elim
  · exact p.elim
end
end Dn

set_option maxHeartbeats 4000000
/-! Dn7: isinstance, methods, values by truth, formatted texts, ranges as values. -/
namespace Dn
open PySem
open L2 (PE PT PA PS PSs PG PGs PI Cx WX Takes HO Hp VK)

/-! ### isinstance against a built-in class -/
def tyName (h : Hs) : A → Option String
  | .non => some "NoneType"
  | .bl _ => some "bool"
  | .int _ => some "int"
  | .str _ => some "str"
  | .tup _ => some "tuple"
  | .rol _ => none
  | .ref n => match h[n]? with
    | some (.lst _) => some "list"
    | some (.dK _) => some "dict"
    | some (.dT _) => some "dict"
    | _ => none
  | .glo _ => none
  | .ty _ => none
def bIsi : List A → Hs → R A := fun as h => match as with
  | [a, .ty c] => match (tyName h a).bind fun t => L2.kitB t c with
    | some b => .ok (.bl b) h
    | none => .no
  | _ => .no
section
variable {K : PySem.W.Frag} {mg : Str → Option Value} {rho rho' : List Addr} {H H' : Hp} {h h' : Hs}
theorem tyName_get (hr : HR K mg rho H h) {a : A} {t : String} (e : tyName h a = some t) {v : L2.V} (r : RV K mg rho H a v) : L2.TyX K H v (.type t) := by
  cases r with
  | non => cases e; exact .base .non
  | bl b => cases e; exact .base (.bl b)
  | int i => cases e; exact .base (.int i)
  | str x => cases e; exact .base (.str x)
  | tup h1 h2 => cases e; exact .base (.tup h1)
  | ref hp =>
    rename_i n p
    unfold tyName at e
    dsimp only at e
    cases q : h[n]? with
    | none => rw [q] at e; cases e
    | some o =>
      rw [q] at e
      cases o with
      | lst _ => cases e; obtain ⟨vs, h1, _⟩ := hr.lst hp q; exact .base (.lst h1)
      | dK _ => cases e; obtain ⟨vs, h1, _⟩ := hr.dK hp q; exact .base (.dK h1)
      | dT _ => cases e; obtain ⟨vs, h1, _⟩ := hr.dT hp q; exact .base (.dT h1)
      | tab _ _ => cases e
  | _ => cases e
theorem rf_isi : RfL K mg (L2.rIsi K) bIsi := by
  intro rho H h as xs W Q hr ra p
  unfold bIsi at p
  split at p
  · rename_i a c
    obtain ⟨v, u, rfl, rv, ru⟩ := ra.two
    cases ru
    split at p
    · rename_i b e
      cases q : tyName h a with
      | none => rw [q] at e; cases e
      | some t =>
        rw [q] at e
        exact ⟨v, .ty c, .type t, .type c, b, rfl, .ty c, tyName_get hr q rv, L2.kit_ty e, p.here hr (.bl _)⟩
    · exact p.elim
  · exact p.elim
end
section
variable {X : Cx} {W : WX} {e a b o i : Expr} {es rest : List Expr} {pos p apos cpos : Pos} {f fa fb fo : DE} {ft : DA}
/-- a built-in class as a value -/
theorem d_bty {x : Str} {n : String} (hg : L2.Gl X x) (hm : X.mg x = none) (hv : bootBuiltins x = some (.type n)) (hn : x ≠ "__name__" := by decide) (hd : (x == ("__debug__" : Str)) = false := by decide) : PEd X W (.Name x pos) (conD (.ty n)) :=
  d_con (L2.pe_bltn hg hm hv (show L2.RelV (.ty n) (.type n) from rfl) hn hd) fun _ _ => .ty n
/-! ### methods of built-in kinds -/
def tyA (h : Hs) (T : String) : A → Bool
  | .str _ => decide (T = "str")
  | .rol _ => decide (T = "list")
  | .ref n => match h[n]? with
    | some (.lst _) => decide (T = "list")
    | some (.dK _) => decide (T = "dict")
    | some (.dT _) => decide (T = "dict")
    | _ => false
  | _ => false
def methD (T : String) (g : A → List A → Hs → R A) (fo : DE) (ft : DA) : DE := fun n s h => (fo n s h).bind fun a h1 => if tyA h1 T a then (ft n s h1).bind fun as h2 => g a as h2 else .no
def RfM (K : PySem.W.Frag) (mg : Str → Option Value) (r : L2.V → List L2.V → Hp → VK → Prop) (g : A → List A → Hs → R A) : Prop := ∀ (rho : List Addr) (H : Hp) (h : Hs) (a : A) (as : List A) (x : L2.V) (xs : List L2.V) (W : Value → Option Addr → Hp → Prop) (Q : VK),
  HR K mg rho H h → RV K mg rho H a x → RVs K mg rho H as xs → PostV K mg rho H W Q (g a as h) → r x xs H Q
theorem tyA_get {K : PySem.W.Frag} {mg : Str → Option Value} {rho : List Addr} {H : Hp} {h : Hs} (hr : HR K mg rho H h) {T : String} {a : A} (e : tyA h T a = true) {v : L2.V} (r : RV K mg rho H a v) : L2.tyV K T v H := by
  cases r with
  | str x => exact (show T = "str" from of_decide_eq_true e)
  | rol h1 h2 =>
    rename_i vs
    refine .inl ⟨of_decide_eq_true e, vs, ?_⟩
    exact rol_sq h1
  | ref hp =>
    rename_i n p
    unfold tyA at e
    dsimp only at e
    cases q : h[n]? with
    | none => rw [q] at e; cases e
    | some o =>
      rw [q] at e
      cases o with
      | lst _ => obtain ⟨vs, h1, _⟩ := hr.lst hp q; exact .inl ⟨of_decide_eq_true e, _, .of h1⟩
      | dK _ => obtain ⟨vs, h1, _⟩ := hr.dK hp q; exact .inr (.inr (.inl ⟨of_decide_eq_true e, .inl ⟨_, h1⟩⟩))
      | dT _ => obtain ⟨vs, h1, _⟩ := hr.dT hp q; exact .inr (.inr (.inl ⟨of_decide_eq_true e, .inr ⟨_, h1⟩⟩))
      | tab _ _ => cases e
  | _ => cases e
theorem d_bm {T id : String} {name : Str} {r : L2.V → List L2.V → Hp → VK → Prop} {g : A → List A → Hs → R A} (pa : PlainAttrs T) (slot : Slot T name id) (hty : typeOf (.builtin id) = pure (.type "method_descriptor")) (hm : L2.MtR X id r) (rf : RfM X.K X.mg r g)
    (ho : PEd X W o fo) (ha : PAd X W (e :: es) ft)
    (hbase : attributeBase o name X.env (eval o X.env) = eval o X.env := by rfl)
    (hfew : ((backTo cpos (starEach (e :: es) X.env)).all (fun x => !x.1) && (backToKw cpos (keywordEach [] X.env)).all (fun x => x.1.isSome)
      && decide ((e :: es).length + ([] : List Keyword).length + (if ([] : List Keyword).isEmpty then 0 else 1) < 30)) = true := by rfl)
    (hline : (apos.endLine == cpos.line) = true := by rfl) (hs : starEach (e :: es) X.env = (false, eval e X.env) :: starEach es X.env := by rfl) (hpl : (backTo cpos (starEach es X.env)).any (·.1) = false := by rfl) :
    PEd X W (.Call (.Attribute o name apos) (e :: es) [] cpos) (methD T g fo ft) := by
  refine pe_weak (L2.pe_bm pa slot hty hm ho ha hbase hfew hline hs hpl) fun sg H Q w => ?_
  obtain ⟨n, rho, s, h, hr, l, p⟩ := w
  refine ⟨n, rho, s, h, hr, l, Post.bind p fun a h1 v rho1 H1 n1 hr1 r1 p1 => ?_⟩
  split at p1
  · rename_i ht
    refine ⟨tyA_get hr1 ht r1, n, rho1, s, h1, hr1, l.mono hr n1, Post.bind p1 fun as h2 vs rho2 H2 n2 hr2 r2 p2 => ?_⟩
    exact rf rho2 H2 h2 a as v vs _ Q hr2 (r1.mono hr1 n2) r2 p2
  · exact p1.elim
theorem d_bm0 {T id : String} {name : Str} {r : L2.V → List L2.V → Hp → VK → Prop} {g : A → List A → Hs → R A} (pa : PlainAttrs T) (slot : Slot T name id) (hty : typeOf (.builtin id) = pure (.type "method_descriptor")) (hm : L2.MtR X id r) (rf : RfM X.K X.mg r g)
    (ho : PEd X W o fo) (hbase : attributeBase o name X.env (eval o X.env) = eval o X.env := by rfl) (hline : (apos.endLine == cpos.line) = true := by rfl) :
    PEd X W (.Call (.Attribute o name apos) [] [] cpos) (methD T g fo nilD) := by
  refine pe_weak (L2.pe_bm0 pa slot hty hm ho hbase hline) fun sg H Q w => ?_
  obtain ⟨n, rho, s, h, hr, l, p⟩ := w
  refine ⟨n, rho, s, h, hr, l, Post.bind p fun a h1 v rho1 H1 n1 hr1 r1 p1 => ?_⟩
  split at p1
  · rename_i ht
    exact ⟨tyA_get hr1 ht r1, rf rho1 H1 h1 a [] v [] _ Q hr1 r1 .nil p1⟩
  · exact p1.elim
end
/-- xs.append(y), xs.pop(), xs.pop(i), sep.join(xs) -/
def mAppend (a : A) (as : List A) (h : Hs) : R A := match a, as with
  | .ref n, [b] => match h[n]? with
    | some (.lst xs) => if xs.length < sizeLine then .ok .non (h.set n (.lst (xs ++ [b]))) else .no
    | _ => .no
  | _, _ => .no
def mPop (a : A) (as : List A) (h : Hs) : R A := match a, as with
  | .ref n, [] => match h[n]? with
    | some (.lst xs) => match xs[xs.length - 1]? with
      | some y => .ok y (h.set n (.lst xs.dropLast))
      | none => .no
    | _ => .no
  | _, _ => .no
def mPopAt (a : A) (as : List A) (h : Hs) : R A := match a, as with
  | .ref n, [.int i] => match h[n]? with
    | some (.lst xs) => if 0 ≤ i ∧ i < xs.length ∧ i.natAbs < 2 ^ 62 then (match xs[i.toNat]? with
      | some y => .ok y (h.set n (.lst (xs.eraseIdx i.toNat)))
      | none => .no) else .no
    | _ => .no
  | _, _ => .no
def mJoin (a : A) (as : List A) (h : Hs) : R A := match a, as with
  | .str z, [b] => match (seqOf h b).bind strsOf with
    | some ys => if (ys.map (·.length)).sum + ys.length * z.length ≤ 16777216 then .ok (.str (Txt.join z ys)) h else .no
    | none => .no
  | _, _ => .no
section
variable {K : PySem.W.Frag} {mg : Str → Option Value} {rho rho' : List Addr} {H H' : Hp} {h h' : Hs}
/-- a list is changed and a value handed back -/
theorem setL_ok (hr : HR K mg rho H h) {n : Nat} {q : Addr} (hp : rho[n]? = some q) {a : A} {v : L2.V} {xs : List A} {vs : List L2.V} {W : Value → Option Addr → Hp → Prop} {Q : VK} (p : PostV K mg rho H W Q (.ok a (h.set n (.lst xs)))) (ra : RV K mg rho H a v) (r : RVs K mg rho H xs vs) : Q v (L2.upd H q (.lst vs)) := by
  obtain ⟨nx, hr'⟩ := hr.set (o := .lst xs) (u := .lst vs) hp (.lst r)
  exact p v rho _ nx hr' (ra.mono hr nx)
theorem rf_append : RfM K mg L2.rAppend mAppend := by
  intro rho H h a as x xs W Q hr ra ras p
  unfold mAppend at p
  split at p
  · obtain ⟨v, rfl, rv⟩ := ras.one
    cases ra with
    | ref hp =>
      split at p
      · rename_i ys q
        obtain ⟨vs, h1, h2⟩ := hr.lst hp q
        split at p
        · rename_i hz
          exact ⟨_, vs, v, rfl, rfl, h1, by rw [← h2.length]; exact hz, setL_ok hr hp p .non (h2.append (.cons rv .nil))⟩
        · exact p.elim
      · exact p.elim
  · exact p.elim
theorem RVs.dropLast {as : List A} {vs : List L2.V} (r : RVs K mg rho H as vs) : RVs K mg rho H as.dropLast vs.dropLast := by
  rw [List.dropLast_eq_take, List.dropLast_eq_take, r.length]
  exact r.take _
theorem rf_pop : RfM K mg L2.rPop mPop := by
  intro rho H h a as x xs W Q hr ra ras p
  unfold mPop at p
  split at p
  · cases ras
    cases ra with
    | ref hp =>
      split at p
      · rename_i ys q
        obtain ⟨vs, h1, h2⟩ := hr.lst hp q
        split at p
        · rename_i y e
          obtain ⟨v, e2, rv⟩ := h2.get e
          rw [h2.length] at e2
          exact ⟨_, vs, v, rfl, rfl, h1, e2, setL_ok hr hp p rv h2.dropLast⟩
        · exact p.elim
      · exact p.elim
  · exact p.elim
theorem rf_popAt : RfM K mg L2.rPopAt mPopAt := by
  intro rho H h a as x xs W Q hr ra ras p
  unfold mPopAt at p
  split at p
  · obtain ⟨v, rfl, rv⟩ := ras.one
    cases rv
    cases ra with
    | ref hp =>
      split at p
      · rename_i ys q
        obtain ⟨vs, h1, h2⟩ := hr.lst hp q
        split at p
        · rename_i hz
          split at p
          · rename_i y e
            obtain ⟨v, e2, rv⟩ := h2.get e
            refine ⟨_, vs, _, _, v, rfl, rfl, h1, by omega, by omega, ?_, e2, setL_ok hr hp p rv (h2.erase _)⟩
            exact (L2.ixN_seq (by unfold L2.ixN; rw [if_pos hz.1, if_pos (by rw [← h2.length]; exact hz.2.1)])).1
          · exact p.elim
        · exact p.elim
      · exact p.elim
  · exact p.elim
abbrev rJoin (K : PySem.W.Frag) : L2.V → List L2.V → Hp → VK → Prop := fun x xs H Q => ∃ a p, ∃ ys : List Str, x = .str a ∧ xs = [.ref p] ∧ (L2.SqL K H p (ys.map L2.V.str) ∨ L2.SqT K H p (ys.map L2.V.str)) ∧
    (ys.map (·.length)).sum + ys.length * a.length ≤ 16777216 ∧ Q (.str (Txt.join a ys)) H
theorem rf_join : RfM K mg (rJoin K) mJoin := by
  intro rho H h a as x xs W Q hr ra ras p
  unfold mJoin at p
  split at p
  · rename_i z b
    obtain ⟨v, rfl, rv⟩ := ras.one
    cases ra
    split at p
    · rename_i ys e
      cases q : seqOf h b with
      | none => rw [q] at e; cases e
      | some bs =>
        rw [q] at e
        obtain ⟨t, vs, rfl, r1, hs⟩ := seqOf_get hr q rv
        obtain rfl := strsOf_get e r1
        split at p
        · rename_i hz
          exact ⟨z, t, ys, rfl, rfl, hs, hz, p.here hr (.str _)⟩
        · exact p.elim
    · exact p.elim
  · exact p.elim
/-! ### values by truth -/
def truA (h : Hs) : A → Option Bool
  | .non => some false
  | .bl b => some b
  | .int i => some (i != 0)
  | .str x => if x.length ≤ sizeLine then some ((x.length : Int) != 0) else none
  | .tup xs => some !xs.isEmpty
  | .rol xs => some !xs.isEmpty
  | .ref n => match h[n]? with
    | some (.lst xs) => some !xs.isEmpty
    | some (.dK kvs) => some !kvs.isEmpty
    | _ => none
  | _ => none
theorem RVs.empty {as : List A} {vs : List L2.V} (r : RVs K mg rho H as vs) : (!as.isEmpty) = !vs.isEmpty := by cases r <;> rfl
theorem RKV.empty {k : Type} {as : List (k × A)} {vs : List (k × L2.V)} (r : RKV K mg rho H as vs) : (!as.isEmpty) = !vs.isEmpty := by cases r <;> rfl
theorem truA_get (hr : HR K mg rho H h) {a : A} {k : Bool} (e : truA h a = some k) {v : L2.V} (r : RV K mg rho H a v) : L2.TruV K v H k := by
  cases r with
  | non => cases e; rfl
  | bl b => cases e; rfl
  | int i => cases e; rfl
  | str x =>
    unfold truA at e
    dsimp only at e
    split at e
    · rename_i hz; cases e; exact ⟨hz, rfl⟩
    · cases e
  | tup h1 h2 => cases e; exact .inr (.inl ⟨_, .of h1, h2.empty⟩)
  | rol h1 h2 =>
    cases e
    refine .inl ⟨_, ?_, h2.empty⟩
    exact rol_sq h1
  | ref hp =>
    unfold truA at e
    dsimp only at e
    split at e
    · rename_i xs q; cases e; obtain ⟨vs, h1, h2⟩ := hr.lst hp q; exact .inl ⟨_, .of h1, h2.empty⟩
    · rename_i xs q; cases e; obtain ⟨vs, h1, h2⟩ := hr.dK hp q; exact .inr (.inr ⟨_, h1, h2.empty⟩)
    · cases e
  | _ => cases e
end
def truR (h : Hs) (a : A) : R Bool := match truA h a with
  | some k => .ok k h
  | none => .no
/-- any value as a test -/
def truD (f : DE) : DT := fun n s h => (f n s h).bind fun a h1 => truR h1 a
def orTD (f g : DE) : DE := fun n s h => (f n s h).bind fun a h1 => match truA h1 a with
  | some true => .ok a h1
  | some false => g n s h1
  | none => .no
def andTD (f g : DE) : DE := fun n s h => (f n s h).bind fun a h1 => match truA h1 a with
  | some true => g n s h1
  | some false => .ok a h1
  | none => .no
def notTD (f : DE) : DE := fun n s h => (f n s h).bind fun a h1 => match truA h1 a with
  | some k => .ok (.bl (!k)) h1
  | none => .no
section
variable {X : Cx} {W : WX} {e a b o i : Expr} {es rest : List Expr} {pos p apos cpos : Pos} {f fa fb fo : DE} {ft : DA}
theorem t_tru (ha : PEd X W a fa) (he : ∀ whole, isTrue a X.env whole = (do let v ← whole; standAt a.pos; holding [v] (truthy v)) := by intro _; rfl) : PTd X W a (truD fa) := by
  refine pt_weak (L2.pt_truth ha he) fun sg H Q w => ?_
  obtain ⟨n, rho, s, h, hr, l, p⟩ := w
  refine ⟨n, rho, s, h, hr, l, Post.bind p fun a h1 v rho1 H1 n1 hr1 r1 p1 => ?_⟩
  unfold truR at p1
  split at p1
  · rename_i k q
    exact ⟨k, truA_get hr1 q r1, p1 k rho1 H1 Nx.refl hr1 rfl⟩
  · exact p1.elim
theorem d_orT (ha : PEd X W a fa) (hb : PEd X W (.BoolOp .Or (b :: rest) pos) fb) : PEd X W (.BoolOp .Or (a :: b :: rest) pos) (orTD fa fb) := by
  refine pe_weak (L2.pe_orT ha hb) fun sg H Q w => ?_
  obtain ⟨n, rho, s, h, hr, l, p⟩ := w
  refine ⟨n, rho, s, h, hr, l, Post.bind p fun a h1 v rho1 H1 n1 hr1 r1 p1 => ?_⟩
  split at p1
  · rename_i q
    exact ⟨true, truA_get hr1 q r1, L2.iteT (p1.here hr1 r1)⟩
  · rename_i q
    exact ⟨false, truA_get hr1 q r1, L2.iteF ⟨n, rho1, s, h1, hr1, l.mono hr n1, p1⟩⟩
  · exact p1.elim
theorem d_andT (ha : PEd X W a fa) (hb : PEd X W (.BoolOp .And (b :: rest) pos) fb) : PEd X W (.BoolOp .And (a :: b :: rest) pos) (andTD fa fb) := by
  refine pe_weak (L2.pe_andT ha hb) fun sg H Q w => ?_
  obtain ⟨n, rho, s, h, hr, l, p⟩ := w
  refine ⟨n, rho, s, h, hr, l, Post.bind p fun a h1 v rho1 H1 n1 hr1 r1 p1 => ?_⟩
  split at p1
  · rename_i q
    exact ⟨true, truA_get hr1 q r1, L2.iteT ⟨n, rho1, s, h1, hr1, l.mono hr n1, p1⟩⟩
  · rename_i q
    exact ⟨false, truA_get hr1 q r1, L2.iteF (p1.here hr1 r1)⟩
  · exact p1.elim
theorem d_notT (ha : PEd X W a fa) : PEd X W (.UnaryOp .Not a pos) (notTD fa) := by
  refine pe_weak (L2.pe_notT ha) fun sg H Q w => ?_
  obtain ⟨n, rho, s, h, hr, l, p⟩ := w
  refine ⟨n, rho, s, h, hr, l, Post.bind p fun a h1 v rho1 H1 n1 hr1 r1 p1 => ?_⟩
  split at p1
  · rename_i k q
    exact ⟨k, truA_get hr1 q r1, p1.here hr1 (.bl _)⟩
  · exact p1.elim
/-! ### formatted texts -/
def fmtA (a : A) (h : Hs) : R A := match a with
  | .str y => if y.length ≤ sizeLine then .ok (.str y) h else .no
  | .int i => if i.natAbs.log2 < 1920 then .ok (.str (toString i)) h else .no
  | _ => .no
theorem d_fmt (ha : PEd X W a fa) : PEd X W (.FormattedValue a (-1) none pos) (un1 fmtA fa) := by
  refine pe_weak (L2.pe_fmt ha) fun sg H Q w => ?_
  obtain ⟨n, rho, s, h, hr, l, p⟩ := w
  refine ⟨n, rho, s, h, hr, l, Post.bind p fun a h1 v rho1 H1 n1 hr1 r1 p1 => ?_⟩
  unfold fmtA at p1
  split at p1
  · cases r1
    split at p1
    · rename_i hz; exact .inl ⟨_, rfl, hz, p1.here hr1 (.str _)⟩
    · exact p1.elim
  · cases r1
    split at p1
    · rename_i hz; exact .inr ⟨_, rfl, hz, p1.here hr1 (.str _)⟩
    · exact p1.elim
  · exact p1.elim
/-- the parts of a formatted text, glued from the left -/
def glueD : List DE → Str → Nat → Sl → Hs → R A
  | [], out, _, _, h => .ok (.str out) h
  | f :: fs, out, n, s, h => (f n s h).bind fun a h1 => match a with
    | .str y => if (out ++ y).length ≤ sizeLine then glueD fs (out ++ y) n s h1 else .no
    | _ => .no
inductive PJd (X : Cx) (W : WX) : List Expr → List DE → Prop where
  | nil : PJd X W [] []
  | cons {e : Expr} {es : List Expr} {f : DE} {fs : List DE} : PEd X W e f → PJd X W es fs → PJd X W (e :: es) (f :: fs)
def joinedD (fs : List DE) : DE := fun n s h => glueD fs Str.empty n s h
theorem PJd.pj {fs : List DE} (h : PJd X W es fs) : L2.PJ X es (fs.map (tE X.K X.mg W)) := by
  induction h with
  | nil => exact .nil
  | cons hf _ ih => exact .cons hf ih
theorem glue_ok {Q : VK} : ∀ (fs : List DE) (out : Str) (n : Nat) (rho : List Addr) (s : Sl) (h : Hs) (H : Hp) (sg : L2.St), HR X.K X.mg rho H h → SlR X.K X.mg rho H s sg →
    PostV X.K X.mg rho H (fun c d H' => W c d sg H') Q (glueD fs out n s h) → L2.tJs (fs.map (tE X.K X.mg W)) out sg H (fun o H1 => Q (.str o) H1)
  | [], out, n, rho, s, h, H, sg, hr, l, p => p.here hr (.str out)
  | f :: fs, out, n, rho, s, h, H, sg, hr, l, p => by
    refine ⟨n, rho, s, h, hr, l, Post.bind p fun a h1 v rho1 H1 n1 hr1 r1 p1 => ?_⟩
    cases a with
    | str y =>
      cases r1
      dsimp only at p1
      split at p1
      · rename_i hz
        exact ⟨y, rfl, hz, glue_ok fs (out ++ y) n rho1 s h1 H1 sg hr1 (l.mono hr n1) p1⟩
      · exact p1.elim
    | _ => exact p1.elim
theorem d_joined {v1 v2 : Expr} {fs : List DE} (h : PJd X W (v1 :: v2 :: rest) fs) : PEd X W (.JoinedStr (v1 :: v2 :: rest) pos) (joinedD fs) := by
  refine pe_weak (L2.pe_joined h.pj) fun sg H Q w => ?_
  obtain ⟨n, rho, s, h, hr, l, p⟩ := w
  exact glue_ok fs Str.empty n rho s h H sg hr l p
theorem d_joined1 (h : PEd X W e f) : PEd X W (.JoinedStr [e] pos) f := L2.pe_joined1 h
/-! ### list(range(..)), tuple(range(..)) -/
abbrev tRg (K : PySem.W.Frag) (mg : Str → Option Value) (W : WX) (f : Nat → Sl → Hs → R (Int × Int)) : L2.St → Hp → (Int → Int → Hp → Prop) → Prop := fun sg H Q => ∃ n rho s h, HR K mg rho H h ∧ SlR K mg rho H s sg ∧ Post K mg (fun _ _ a b => a = b) rho H (fun c d H' => W c d sg H') (fun z H' => Q z.1 z.2 H') (f n s h)
def rg1 (f : DE) : Nat → Sl → Hs → R (Int × Int) := fun n s h => (f n s h).bind fun a h1 => match a with
  | .int j => .ok (0, j) h1
  | _ => .no
def rg2 (f g : DE) : Nat → Sl → Hs → R (Int × Int) := fun n s h => (f n s h).bind fun a h1 => (g n s h1).bind fun b h2 => match a, b with
  | .int i, .int j => .ok (i, j) h2
  | _, _ => .no
theorem prg_weak {t t' : L2.St → Hp → (Int → Int → Hp → Prop) → Prop} (h : L2.PRg X e t) (m : ∀ sg H Q, t' sg H Q → t sg H Q) : L2.PRg X e t' := by
  unfold L2.PRg at h ⊢
  intros
  rename_i w
  exact h _ _ _ _ _ ‹_› (m _ _ _ w)
def rgL (lo hi : Int) : List A := (List.range (hi - lo).toNat).map fun i => A.int (lo + (i : Nat))
def rgOk (a b : Int) : Bool := Nat.blt a.natAbs (2 ^ 62) && (Nat.blt b.natAbs (2 ^ 62) && Nat.ble (b - a).toNat (2 ^ 24))
theorem rgOk_of {a b : Int} (h : rgOk a b = true) : L2.RgOk a b := by
  unfold rgOk at h
  rw [Bool.and_eq_true, Bool.and_eq_true] at h
  obtain ⟨h1, h2, h3⟩ := h
  have h1 := Nat.blt_eq.mp h1
  have h2 := Nat.blt_eq.mp h2
  have h3 := Nat.le_of_ble_eq_true h3
  exact ⟨by omega, by omega, by omega, by omega, h3⟩
theorem rgL_ok {K : PySem.W.Frag} {mg : Str → Option Value} {rho : List Addr} {H : Hp} (a b : Int) : RVs K mg rho H (rgL a b) (L2.rgV a b) := by
  unfold rgL L2.rgV
  generalize List.range (b - a).toNat = l
  induction l with
  | nil => exact .nil
  | cons x xs ih => exact .cons (.int _) ih
def lstRg (f : Nat → Sl → Hs → R (Int × Int)) : DE := fun n s h => (f n s h).bind fun z h1 => if rgOk z.1 z.2 then newL (rgL z.1 z.2) h1 else .no
def tupRg (f : Nat → Sl → Hs → R (Int × Int)) : DE := fun n s h => (f n s h).bind fun z h1 => if rgOk z.1 z.2 then .ok (.tup (rgL z.1 z.2)) h1 else .no
abbrev PRd (X : Cx) (W : WX) (e : Expr) (f : Nat → Sl → Hs → R (Int × Int)) : Prop := L2.PRg X e (tRg X.K X.mg W f)
theorem r_1 (hg : L2.Gl X "range") (hm : X.mg "range" = none) (ha : PEd X W a fa) (na : starEach [a] X.env = (false, eval a X.env) :: starEach [] X.env := by rfl) : PRd X W (.Call (.Name "range" p) [a] [] pos) (rg1 fa) := by
  refine prg_weak (L2.prg_1 hg hm ha na) fun sg H Q w => ?_
  obtain ⟨n, rho, s, h, hr, l, p⟩ := w
  refine ⟨n, rho, s, h, hr, l, Post.bind p fun a h1 v rho1 H1 n1 hr1 r1 p1 => ?_⟩
  cases a with
  | int i => cases r1; exact ⟨i, rfl, p1 _ rho1 H1 Nx.refl hr1 rfl⟩
  | _ => exact p1.elim
theorem r_2 (hg : L2.Gl X "range") (hm : X.mg "range" = none) (ha : PEd X W a fa) (hb : PEd X W b fb) (na : starEach [a, b] X.env = (false, eval a X.env) :: starEach [b] X.env := by rfl)
    (nb : starEach [b] X.env = (false, eval b X.env) :: starEach [] X.env := by rfl) (hp : (backTo pos (starEach [b] X.env)).any (·.1) = false := by rfl) : PRd X W (.Call (.Name "range" p) [a, b] [] pos) (rg2 fa fb) := by
  refine prg_weak (L2.prg_2 hg hm ha hb na nb hp) fun sg H Q w => ?_
  obtain ⟨n, rho, s, h, hr, l, p⟩ := w
  refine ⟨n, rho, s, h, hr, l, Post.bind p fun a h1 v rho1 H1 n1 hr1 r1 p1 => ?_⟩
  refine ⟨n, rho1, s, h1, hr1, l.mono hr n1, Post.bind p1 fun b h2 u rho2 H2 n2 hr2 r2 p2 => ?_⟩
  cases a with
  | int i =>
    cases b with
    | int j => cases r1; cases r2; exact ⟨i, j, rfl, rfl, p2 _ rho2 H2 Nx.refl hr2 rfl⟩
    | _ => exact p2.elim
  | _ => exact p2.elim
variable {fr : Nat → Sl → Hs → R (Int × Int)}
theorem d_lstRg (hc : X.calm = true) (hg : L2.Gl X "list") (hm : X.mg "list" = none) (he : PRd X W e fr) (na : starEach [e] X.env = (false, eval e X.env) :: starEach [] X.env := by rfl) : PEd X W (.Call (.Name "list" p) [e] [] pos) (lstRg fr) := by
  refine pe_weak (L2.pe_listRg hc hg hm he na) fun sg H Q w => ?_
  obtain ⟨n, rho, s, h, hr, l, p⟩ := w
  refine ⟨n, rho, s, h, hr, l, Post.bind p fun z h1 z' rho1 H1 n1 hr1 r1 p1 => ?_⟩
  subst r1
  split at p1
  · rename_i hz
    exact ⟨rgOk_of hz, newL_ok hr1 p1 (rgL_ok _ _)⟩
  · exact p1.elim
theorem d_tupRg (hc : X.calm = true) (hg : L2.Gl X "tuple") (hm : X.mg "tuple" = none) (he : PRd X W e fr) (na : starEach [e] X.env = (false, eval e X.env) :: starEach [] X.env := by rfl) : PEd X W (.Call (.Name "tuple" p) [e] [] pos) (tupRg fr) := by
  refine pe_weak (L2.pe_tupRg hc hg hm he na) fun sg H Q w => ?_
  obtain ⟨n, rho, s, h, hr, l, p⟩ := w
  refine ⟨n, rho, s, h, hr, l, Post.bind p fun z h1 z' rho1 H1 n1 hr1 r1 p1 => ?_⟩
  subst r1
  split at p1
  · rename_i hz
    exact ⟨rgOk_of hz, newT_ok hr1 p1 (rgL_ok _ _)⟩
  · exact p1.elim
end
end Dn

set_option maxHeartbeats 4000000
/-! Dn8: targets, stores, while, for, comprehensions. -/
namespace Dn
open PySem
open L2 (PE PT PA PS PSs PG PGs PI Cx WX Takes HO Hp VK)

/-! ### targets -/
abbrev DG := A → Sl → Option Sl
section
variable (K : PySem.W.Frag) (mg : Str → Option Value)
/-- a store: what f tells, at the slots ix alone -/
def tG (f : DG) (ix : List Nat) : L2.TG := fun v sg H Q => ∃ rho s h a, HR K mg rho H h ∧ SlR K mg rho H s sg ∧ RV K mg rho H a v ∧ ∃ s1, f a s = some s1 ∧ ∀ sg1, SlR K mg rho H s1 sg1 → sg1.length = sg.length → (∀ j, j ∉ ix → sg1[j]? = sg[j]?) → Q sg1 H
def tGs (f : List A → Sl → Option Sl) (ix : List Nat) : L2.TGs := fun vs sg H Q => ∃ rho s h as, HR K mg rho H h ∧ SlR K mg rho H s sg ∧ RVs K mg rho H as vs ∧ ∃ s1, f as s = some s1 ∧ ∀ sg1, SlR K mg rho H s1 sg1 → sg1.length = sg.length → (∀ j, j ∉ ix → sg1[j]? = sg[j]?) → Q sg1 H
end
abbrev PGd (X : Cx) (tg : Expr) (f : DG) (ix : List Nat) : Prop := PG X tg (tG X.K X.mg f ix)
abbrev PGsd (X : Cx) (tg : List Expr) (f : List A → Sl → Option Sl) (ix : List Nat) : Prop := PGs X tg (tGs X.K X.mg f ix)
def nameG (i : Nat) : DG := fun a s => some (s.set i (some a))
def nilG : List A → Sl → Option Sl := fun as s => match as with
  | [] => some s
  | _ => none
def consG (f : DG) (g : List A → Sl → Option Sl) : List A → Sl → Option Sl := fun as s => match as with
  | a :: r => (f a s).bind fun s1 => g r s1
  | _ => none
def tupG (n : Nat) (g : List A → Sl → Option Sl) : DG := fun a s => match a with
  | .tup xs => if xs.length = n then g xs s else none
  | _ => none
section
variable {X : Cx} {W : WX} {e a b o i : Expr} {es rest : List Expr} {pos p apos cpos : Pos} {f fa fb fo : DE} {ft : DA}
theorem pg_weak {t t' : L2.TG} (h : PG X e t) (m : ∀ v sg H Q, t' v sg H Q → t v sg H Q) : PG X e t' := ⟨fun pins s sg H v u Q I r w => h.run pins s sg H v u Q I r (m v sg H Q w)⟩
theorem pgs_weak {t t' : L2.TGs} (h : PGs X es t) (m : ∀ v sg H Q, t' v sg H Q → t v sg H Q) : PGs X es t' := ⟨fun pins s sg H v u Q I r w => h.run pins s sg H v u Q I r (m v sg H Q w)⟩
theorem g_name {i : Nat} {x : Str} (hN : X.N.Nodup) (hi : X.N[i]? = some x) (hx : L2.Loc X.env.scope x) (hf : X.fn x = true ∨ X.env.scope.names.lookup x = some .local := by first | exact .inl rfl | exact .inr rfl | assumption) : PGd X (.Name x pos) (nameG i) [i] := by
  refine pg_weak (L2.pg_name hN hi hx hf) fun v sg H Q w => ?_
  obtain ⟨rho, s, h, a, hr, l, r, s1, e, q⟩ := w
  cases e
  refine q _ (l.set r i) (List.length_set) fun j hj => ?_
  exact List.getElem?_set_ne (fun z => hj (by rw [← z]; exact List.mem_singleton.mpr rfl))
theorem gs_nil : PGsd X [] nilG [] := by
  refine pgs_weak L2.pgs_nil fun v sg H Q w => ?_
  obtain ⟨rho, s, h, as, hr, l, r, s1, e, q⟩ := w
  cases r with
  | nil => cases e; exact ⟨rfl, q sg l rfl fun _ _ => rfl⟩
  | cons _ _ => cases e
theorem gs_cons {tf : DG} {tg : List A → Sl → Option Sl} {ix jx : List Nat} (h1 : PGd X e tf ix) (h2 : PGsd X es tg jx) (hs : (assignEach (e :: es) X.env).map (·.2) = assign e X.env :: (assignEach es X.env).map (·.2) := by rfl) : PGsd X (e :: es) (consG tf tg) (ix ++ jx) := by
  refine pgs_weak (L2.pgs_cons h1 h2 hs) fun v sg H Q w => ?_
  obtain ⟨rho, s, h, as, hr, l, r, s1, e, q⟩ := w
  cases r with
  | nil => cases e
  | @cons a u as us r1 r2 =>
    unfold consG at e
    dsimp only at e
    cases q1 : tf a s with
    | none => rw [q1] at e; cases e
    | some s2 =>
      rw [q1, Option.bind_some] at e
      refine ⟨_, _, rfl, rho, s, h, a, hr, l, r1, s2, q1, fun sg1 l1 z1 k1 => ?_⟩
      refine ⟨rho, s2, h, as, hr, l1, r2, s1, e, fun sg2 l2 z2 k2 => q sg2 l2 (z2.trans z1) fun j hj => ?_⟩
      rw [k2 j (fun m => hj (List.mem_append_right _ m)), k1 j (fun m => hj (List.mem_append_left _ m))]
theorem g_tup {k n : Nat} {tg : List A → Sl → Option Sl} {ix : List Nat} (hc : X.calm = true) (h : PGsd X es tg ix) (hn : (assignEach es X.env).length = n := by rfl) (hst : (assignEach es X.env).findIdx? (·.1) = none := by rfl) : PGd X (.Tuple es k pos) (tupG n tg) ix := by
  refine pg_weak (L2.pg_tup hc h hn hst) fun v sg H Q w => ?_
  obtain ⟨rho, s, h, a, hr, l, r, s1, e, q⟩ := w
  cases r with
  | tup h1 h2 =>
    unfold tupG at e
    dsimp only at e
    split at e
    · rename_i hz
      exact ⟨_, _, rfl, .of h1, by rw [← h2.length]; exact hz, rho, s, h, _, hr, l, h2, s1, e, q⟩
    · cases e
  | _ => cases e
/-! ### stores -/
def asgD (f : DE) (g : DG) : DS := fun n s h => (f n s h).then s fun a h1 => match g a s with
  | some s1 => .nx s1 h1
  | none => .no
theorem s_asg {tg : Expr} {g : DG} {ix : List Nat} (he : PEd X W e f) (hg : PGd X tg g ix) (hs : swapsWithSole [tg] e pos.line X.env = pure false := by rfl) (hw : swappedStores [tg] e X.env = pure none := by rfl)
    (h1 : (assignEach [tg] X.env).map (·.2) = [assign tg X.env] := by rfl) : PSd X W (.Assign [tg] e pos) (asgD f g) := by
  refine ps_weak (L2.ps_asg he hg hs hw h1) fun D sg H w => ?_
  obtain ⟨n, rho, s, h, hr, l, p⟩ := w
  refine ⟨n, rho, s, h, hr, l, PostS.then hr l p fun a h1 v rho1 H1 n1 hr1 r1 p1 => ?_⟩
  cases q : g a s with
  | none => rw [q] at p1; exact p1.elim
  | some s1 =>
    rw [q] at p1
    exact ⟨rho1, s, h1, a, hr1, l.mono hr n1, r1, s1, q, fun sg1 l1 _ _ => p1 sg1 rho1 H1 Nx.refl hr1 l1⟩
def parD (i j : Nat) (ft : DA) : DS := fun n s h => (ft n s h).then s fun as h1 => match as with
  | [a, b] => .nx ((s.set i (some a)).set j (some b)) h1
  | _ => .no
theorem s_par {i j : Nat} {x y : Str} {px py pt : Pos} {kt k2 pt2} (hc : X.calm = true) (hN : X.N.Nodup) (hi : X.N[i]? = some x) (hj : X.N[j]? = some y) (hij : i ≠ j)
    (hx : X.env.scope.names.lookup x = some .local) (hy : X.env.scope.names.lookup y = some .local) (ha : PAd X W [a, b] ft)
    (hw : swappedStores [.Tuple [.Name x px, .Name y py] kt pt] (.Tuple [a, b] k2 pt2) X.env = pure (some [x, y]))
    (hs : swapsWithSole [.Tuple [.Name x px, .Name y py] kt pt] (.Tuple [a, b] k2 pt2) pos.line X.env = pure false := by rfl) :
    PSd X W (.Assign [.Tuple [.Name x px, .Name y py] kt pt] (.Tuple [a, b] k2 pt2) pos) (parD i j ft) := by
  refine ps_weak (L2.ps_par hc hN hi hj hij hx hy ha hw hs) fun D sg H w => ?_
  obtain ⟨n, rho, s, h, hr, l, p⟩ := w
  refine ⟨n, rho, s, h, hr, l, PostS.then hr l p fun as h1 vs rho1 H1 n1 hr1 r1 p1 => ?_⟩
  split at p1
  · obtain ⟨v, u, rfl, rv, ru⟩ := r1.two
    exact ⟨v, u, rfl, p1 _ rho1 H1 Nx.refl hr1 (((l.mono hr n1).set rv i).set ru j)⟩
  · exact p1.elim
/-- o[i] = e: a list's place, a dict's key -/
def setItA (h : Hs) (a b c : A) : Option Hs := match a, b with
  | .ref n, .int i => match h[n]? with
    | some (.lst xs) => (L2.ixN xs.length i).map fun j => h.set n (.lst (xs.set j c))
    | _ => dputA h a b c
  | _, _ => dputA h a b c
def isList (h : Hs) : A → Bool
  | .ref n => match h[n]? with
    | some (.lst _) => true
    | _ => false
  | _ => false
def setItD (fo fi fe : DE) : DS := fun n s h => (fe n s h).then s fun c h1 => (fo n s h1).then s fun a h2 => (fi n s h2).then s fun b h3 => match setItA h3 a b c with
  | some h4 => .nx s h4
  | none => .no
def setKind (fo fi fe : DE) (n : Nat) (s : Sl) (h : Hs) : Bool := match fe n s h with
  | .ok _ h1 => match fo n s h1 with
    | .ok a h2 => match fi n s h2 with
      | .ok _ h3 => isList h3 a
      | _ => false
    | _ => false
  | _ => false
theorem PostS.thenE {K : PySem.W.Frag} {mg : Str → Option Value} {rho : List Addr} {H : Hp} {h : Hs} {s : Sl} {sg : L2.St} {α β : Type} {rel : List Addr → Hp → α → β → Prop} {W : WX} {D : L2.Ends} {Q' : β → Hp → Prop} {r : R α} {k : α → Hs → RS} (hr : HR K mg rho H h) (l : SlR K mg rho H s sg) (p : PostS K mg rho H W D (r.then s k))
    (c : ∀ a h1 b rho1 H1, r = .ok a h1 → Nx rho H rho1 H1 → HR K mg rho1 H1 h1 → rel rho1 H1 a b → PostS K mg rho1 H1 W D (k a h1) → Q' b H1) : Post K mg rel rho H (fun c d H' => W c d sg H') Q' r := by
  cases r with
  | ok a h1 => exact fun b rho1 H1 n1 hr1 r1 => c a h1 b rho1 H1 rfl n1 hr1 r1 (PostS.mono hr1 n1 (show PostS K mg rho H W D (k a h1) from p))
  | ex x h1 => exact fun c d rho1 H1 n1 hr1 r1 => (show PostS K mg rho H W D (.ex x s h1) from p) c d sg rho1 H1 n1 hr1 (l.mono hr n1) r1
  | no => exact p
theorem ps_or {st : Stmt} {t t' : L2.TS} (h : PS X st t) (h' : PS X st t') : PS X st (fun D sg H => t D sg H ∨ t' D sg H) := ⟨fun pins s sg H D I w => w.elim (h.run pins s sg H D I) (h'.run pins s sg H D I)⟩
theorem s_setIt {e : Expr} {pos' : Pos} {fi fe : DE} (hu : X.A.units + 1 < cLine) (ho : PEd X W o fo) (hi : PEd X W i fi) (he : PEd X W e fe)
    (ha : ∀ v, assign (.Subscript o i pos') X.env v = (do
      let ov ← holding [v] (eval o X.env)
      let iv ← holding [v, ov] (eval i X.env)
      standAt pos'
      holding [v, ov, iv] (setItem ov iv v)
      release [v, ov, iv] []) := by intro _; rfl)
    (hs : swapsWithSole [.Subscript o i pos'] e pos.line X.env = pure false := by rfl) (hw : swappedStores [.Subscript o i pos'] e X.env = pure none := by rfl)
    (h1 : (assignEach [.Subscript o i pos'] X.env).map (·.2) = [assign (.Subscript o i pos') X.env] := by rfl) (hs2 : swapsWith e (some (.Subscript o i pos')) pos.line X.env = pure false := by rfl) : PSd X W (.Assign [.Subscript o i pos'] e pos) (setItD fo fi fe) := by
  refine ps_weak (ps_or (L2.ps_asg he (L2.pg_sub ho hi L2.set_list ha) hs hw h1) (L2.ps_dput hu ho hi he hs2)) fun D sg H w => ?_
  obtain ⟨n, rho, s, h, hr, l, p⟩ := w
  cases q : setKind fo fi fe n s h with
  | true =>
    refine .inl ⟨n, rho, s, h, hr, l, PostS.thenE hr l p fun c h1 v rho1 H1 q1 n1 hr1 r1 p1 => ?_⟩
    refine ⟨n, rho1, s, h1, hr1, l.mono hr n1, PostS.thenE hr1 (l.mono hr n1) p1 fun a h2 u rho2 H2 q2 n2 hr2 r2 p2 => ?_⟩
    refine ⟨n, rho2, s, h2, hr2, (l.mono hr n1).mono hr1 n2, PostS.thenE hr2 ((l.mono hr n1).mono hr1 n2) p2 fun b h3 z rho3 H3 q3 n3 hr3 r3 p3 => ?_⟩
    have hk : isList h3 a = true := by rw [← q]; unfold setKind; rw [q1]; dsimp only; rw [q2]; dsimp only; rw [q3]
    have ra := r2.mono hr2 n3
    have rc := (r1.mono hr1 n2).mono hr2 n3
    cases ra with
    | ref hp =>
      rename_i m pp
      unfold isList at hk
      dsimp only at hk
      split at hk
      · rename_i xs hx
        cases b with
        | int j =>
          cases r3
          unfold setItA at p3
          dsimp only at p3
          rw [hx] at p3
          dsimp only at p3
          cases q4 : L2.ixN xs.length j with
          | none => rw [q4] at p3; exact p3.elim
          | some jj =>
            rw [q4] at p3
            obtain ⟨vs, e1, e2⟩ := hr3.lst hp hx
            obtain ⟨nx, hr4⟩ := hr3.set (o := .lst (xs.set jj c)) (u := .lst (vs.set jj v)) hp (.lst (RVs.set rc jj e2))
            exact ⟨pp, vs, j, jj, rfl, rfl, e1, by rw [← e2.length]; exact q4, p3 sg rho3 _ nx hr4 ((((l.mono hr n1).mono hr1 n2).mono hr2 n3).mono hr3 nx)⟩
        | _ =>
          unfold setItA dputA at p3
          simp only [hx] at p3
          exact p3.elim
      · cases hk
    | _ => cases hk
  | false =>
    refine .inr ⟨n, rho, s, h, hr, l, PostS.thenE hr l p fun c h1 v rho1 H1 q1 n1 hr1 r1 p1 => ?_⟩
    refine ⟨n, rho1, s, h1, hr1, l.mono hr n1, PostS.thenE hr1 (l.mono hr n1) p1 fun a h2 u rho2 H2 q2 n2 hr2 r2 p2 => ?_⟩
    refine ⟨n, rho2, s, h2, hr2, (l.mono hr n1).mono hr1 n2, PostS.thenE hr2 ((l.mono hr n1).mono hr1 n2) p2 fun b h3 z rho3 H3 q3 n3 hr3 r3 p3 => ?_⟩
    have hk : isList h3 a = false := by rw [← q]; unfold setKind; rw [q1]; dsimp only; rw [q2]; dsimp only; rw [q3]
    have e4 : setItA h3 a b c = dputA h3 a b c := by
      unfold setItA
      split
      · rename_i m j
        split
        · rename_i xs hx
          unfold isList at hk
          dsimp only at hk
          rw [hx] at hk
          cases hk
        · rfl
      · rfl
    rw [e4] at p3
    cases q4 : dputA h3 a b c with
    | none => rw [q4] at p3; exact p3.elim
    | some h4 =>
      rw [q4] at p3
      obtain ⟨pp, H4, rfl, g, nx, hr4⟩ := dputA_get hr3 q4 (r2.mono hr2 n3) r3 ((r1.mono hr1 n2).mono hr2 n3)
      exact ⟨pp, H4, rfl, g, p3 sg rho3 _ nx hr4 ((((l.mono hr n1).mono hr1 n2).mono hr2 n3).mono hr3 nx)⟩
/-- x += e, ints or texts -/
def augD (i : Nat) (g : O2) (f : DE) : DS := fun n s h => match s[i]? with
  | some (some a) => (f n s h).then s fun b h1 => (g a b h1).then s fun c h2 => .nx (s.set i (some c)) h2
  | _ => .no
theorem s_aug {i : Nat} {x : Str} {op : Operator} {r : L2.R2} {g : O2} {pos' : Pos} (hN : X.N.Nodup) (hi : X.N[i]? = some x) (hx : L2.Loc X.env.scope x) (he : PEd X W e f) (ho : L2.OpR X (inplaceOp op) r) (rf : Rf2 X.K X.mg r g)
    (hf : X.fn x = true ∨ X.env.scope.names.lookup x = some .local := by first | exact .inl rfl | exact .inr rfl | assumption) : PSd X W (.AugAssign (.Name x pos') op e pos) (augD i g f) := by
  refine ps_weak (L2.ps_aug (ti := fun x y H Q => r x y H Q) hN hi hx he (fun pins s sg H x y v u Q I rx ry q => ho pins s sg H x y v u Q I rx ry q) hf) fun D sg H w => ?_
  obtain ⟨n, rho, s, h, hr, l, p⟩ := w
  unfold augD at p
  split at p
  · rename_i a ea
    obtain ⟨v, ev, rv⟩ := l.get i a ea
    refine ⟨v, ev, n, rho, s, h, hr, l, PostS.then hr l p fun b h1 u rho1 H1 n1 hr1 r1 p1 => ?_⟩
    refine rf rho1 H1 h1 a b v u (fun c d H' => W c d sg H') _ hr1 (rv.mono hr n1) r1 (PostS.then hr1 (l.mono hr n1) p1 fun c h2 z rho2 H2 n2 hr2 r2 p2 => ?_)
    exact p2 _ rho2 H2 Nx.refl hr2 (((l.mono hr n1).mono hr1 n2).set r2 i)
  · exact p.elim
end
end Dn

set_option maxHeartbeats 4000000
/-! Dn9: while, what is walked, for, comprehensions. -/
namespace Dn
open PySem
open L2 (PE PT PA PS PSs PG PGs PI Cx WX Takes HO Hp VK)

/-! ### while -/
def whileL (c : DT) (b : DS) (n : Nat) : Nat → Sl → Hs → RS
  | 0, _, _ => .no
  | k + 1, s, h => (c n s h).then s fun t h1 => if t then (match b n s h1 with
      | .nx s2 h2 => whileL c b n k s2 h2
      | .ct s2 h2 => whileL c b n k s2 h2
      | .bk s2 h2 => .nx s2 h2
      | r => r)
    else .nx s h1
def whileD (c : DT) (b : DS) : DS := fun n s h => whileL c b n n s h
section
variable {X : Cx} {W : WX} {e a b o i c : Expr} {es rest : List Expr} {body : List Stmt} {pos p apos cpos : Pos} {f fa fb fo : DE} {fc : DT} {g : DS} {ft : DA}
theorem s_while (hp : PassesOwn (model X.prog X.w) X.A X.env X.xe) (hc : PTd X W c fc) (hb : PBd X W body g) : PSd X W (.While c body [] pos) (whileD fc g) := by
  refine ps_weak (L2.ps_while hp hc hb) fun D sg H w => ?_
  obtain ⟨n, rho, s, h, hr, l, p⟩ := w
  refine ⟨fun m sg H => ∃ rho s h, HR X.K X.mg rho H h ∧ SlR X.K X.mg rho H s sg ∧ PostS X.K X.mg rho H W D (whileL fc g n m s h), ⟨n, rho, s, h, hr, l, p⟩, ?_⟩
  clear hr l p
  rintro m sg H ⟨rho, s, h, hr, l, p⟩
  cases m with
  | zero => exact p.elim
  | succ k =>
    rw [whileL] at p
    refine ⟨n, rho, s, h, hr, l, PostS.then hr l p fun t h1 t' rho1 H1 n1 hr1 r1 p1 => ?_⟩
    subst r1
    cases t with
    | false => exact L2.iteF (p1 sg rho1 H1 Nx.refl hr1 (l.mono hr n1))
    | true =>
      simp only [if_true] at p1
      refine L2.iteT ⟨fun sg H => ∃ rho s h, HR X.K X.mg rho H h ∧ SlR X.K X.mg rho H s sg ∧ PostS X.K X.mg rho H W D (whileL fc g n k s h), fun sg' H' z => ⟨k, Nat.lt_succ_self k, z⟩, ?_⟩
      refine ⟨n, rho1, s, h1, hr1, l.mono hr n1, ?_⟩
      revert p1
      cases g n s h1 with
      | nx s2 h2 => intro p1; exact fun sg2 rho2 H2 n2 hr2 l2 => ⟨rho2, s2, h2, hr2, l2, PostS.mono hr2 n2 p1⟩
      | ct s2 h2 => intro p1; exact fun sg2 rho2 H2 n2 hr2 l2 => ⟨rho2, s2, h2, hr2, l2, PostS.mono hr2 n2 p1⟩
      | bk s2 h2 => intro p1; exact p1
      | rt a h2 => intro p1; exact p1
      | ex x s2 h2 => intro p1; exact p1
      | no => intro p1; exact p1
/-! ### what is walked -/
abbrev Step := Nat → Hs → Option (Option A)
abbrev DI := Nat → Sl → Hs → R Step
end
/-- the step st tells the iterator J from (rho, H) on -/
def ItOk (K : PySem.W.Frag) (mg : Str → Option Value) (rho0 : List Addr) (H0 : Hp) (st : Step) (J : L2.It) : Prop := ∀ (rho : List Addr) (H : Hp) (h : Hs) (i : Nat), Stay rho0 H0 rho H → HR K mg rho H h →
  (∀ x, st i h = some (some x) → J.go i H ∧ ∀ v H', J.yld i H v H' → Nx rho H rho H' ∧ HR K mg rho H' h ∧ RV K mg rho H' x v) ∧ (st i h = some none → J.stop i H)
def tI (K : PySem.W.Frag) (mg : Str → Option Value) (W : WX) (f : DI) : L2.TI := fun sg H R => ∃ n rho s h, HR K mg rho H h ∧ SlR K mg rho H s sg ∧ Post K mg (ItOk K mg) rho H (fun c d H' => W c d sg H') R (f n s h)
abbrev PId (X : Cx) (W : WX) (tg iter : Expr) (f : DI) : Prop := PI X tg iter (tI X.K X.mg W f)
theorem pi_weak {X : Cx} {tg e : Expr} {t t' : L2.TI} (h : PI X tg e t) (m : ∀ sg H Q, t' sg H Q → t sg H Q) : PI X tg e t' := ⟨fun pins s sg H Q I w => h.run pins s sg H Q I (m sg H Q w)⟩
theorem pi_or {X : Cx} {tg e : Expr} {t t' : L2.TI} (h : PI X tg e t) (h' : PI X tg e t') : PI X tg e (fun sg H Q => t sg H Q ∨ t' sg H Q) := ⟨fun pins s sg H Q I w => w.elim (h.run pins s sg H Q I) (h'.run pins s sg H Q I)⟩
/-- the items of a sequence, a list as it stands at each turn -/
def stepL (m : Nat) : Step := fun i h => match h[m]? with
  | some (.lst xs) => some xs[i]?
  | _ => none
def stepX (xs : List A) : Step := fun i _ => some xs[i]?
def stepR (lo : Int) (n : Nat) : Step := fun i _ => if i < n then some (some (.int (lo + i))) else some none
def itSeq (f : DE) : DI := fun n s h => (f n s h).bind fun a h1 => match a with
  | .ref m => match h1[m]? with
    | some (.lst _) => .ok (stepL m) h1
    | _ => .no
  | .tup xs => .ok (stepX xs) h1
  | .rol xs => .ok (stepX xs) h1
  | _ => .no
def itRg1 (f : DA) : DI := fun n s h => (f n s h).bind fun as h1 => match as with
  | [.int j] => if j.natAbs < 2 ^ 62 then .ok (stepR 0 j.toNat) h1 else .no
  | _ => .no
def itRg2 (f : DA) : DI := fun n s h => (f n s h).bind fun as h1 => match as with
  | [.int i, .int j] => if i.natAbs < 2 ^ 62 ∧ j.natAbs < 2 ^ 62 then .ok (stepR i (j - i).toNat) h1 else .no
  | _ => .no
/-- enumerate: each item in a new pair -/
def stepE (st : Step) : Step := fun i h => (st i h).map fun o => o.map fun x => .tup [.int (i : Nat), x]
def itEn (f : DA) : DI := fun n s h => (f n s h).bind fun as h1 => match as with
  | [.ref m] => match h1[m]? with
    | some (.lst _) => .ok (stepE (stepL m)) h1
    | _ => .no
  | [.tup xs] => .ok (stepE (stepX xs)) h1
  | [.rol xs] => .ok (stepE (stepX xs)) h1
  | _ => .no
section
variable {K : PySem.W.Frag} {mg : Str → Option Value} {rho rho' : List Addr} {H H' : Hp} {h h' : Hs}
theorem sqL_none {a : Addr} {xs ys : List L2.V} (e : L2.SqL K (fun _ => none) a xs) : L2.SqL K H a xs := by
  rcases e with (e | ⟨_, e⟩) | e
  · cases e
  · cases e
  · exact .inr e
/-- two readings of a list at one place -/
theorem sqK_inj {a : Addr} {xs ys : List L2.V} {o1 o2 : Obj} {i1 i2 : Array Value} {n1 n2 : Nat} (h1 : K.lookup a = some o1) (d1 : o1.data = .seq i1 n1) (r1 : L2.Vals xs i1.toList) (h2 : K.lookup a = some o2) (d2 : o2.data = .seq i2 n2) (r2 : L2.Vals ys i2.toList) : xs = ys := by
  rw [h1] at h2; cases h2
  rw [d1] at d2
  injection d2 with e _
  subst e
  exact r1.inj r2
theorem stepL_ok (hr : HR K mg rho H h) {m : Nat} {a : Addr} (hp : rho[m]? = some a) : ItOk K mg rho H (stepL m) (L2.Itl K a) := by
  intro rho1 H1 h1 i n1 hr1
  have hp1 := n1.pre _ _ hp
  refine ⟨fun x e => ?_, fun e => ?_⟩
  · unfold stepL at e
    split at e
    · rename_i xs q
      obtain ⟨vs, e1, e2⟩ := hr1.lst hp1 q
      obtain ⟨v, e3, rv⟩ := e2.get (Option.some.inj e)
      refine ⟨⟨vs, v, .of e1, e3⟩, fun u H' y => ?_⟩
      obtain ⟨rfl, y⟩ := y
      have z := y vs (.of e1)
      rw [e3] at z
      cases z
      exact ⟨Nx.refl, hr1, rv⟩
    · cases e
  · unfold stepL at e
    split at e
    · rename_i xs q
      obtain ⟨vs, e1, e2⟩ := hr1.lst hp1 q
      refine ⟨vs, .of e1, ?_⟩
      rw [← e2.length]
      exact List.getElem?_eq_none_iff.mp (Option.some.inj e)
    · cases e
theorem stepT_ok (hr : HR K mg rho H h) {a : Addr} {xs : List A} {vs : List L2.V} (e : H a = some (.tup vs)) (r : RVs K mg rho H xs vs) : ItOk K mg rho H (stepX xs) (L2.Itt K a) := by
  intro rho1 H1 h1 i n1 hr1
  have e1 := n1.tups _ _ e
  have r1 := r.stay n1
  refine ⟨fun x q => ?_, fun q => ?_⟩
  · obtain ⟨v, e3, rv⟩ := r1.get (Option.some.inj q)
    refine ⟨⟨vs, v, .of e1, e3⟩, fun u H' y => ?_⟩
    obtain ⟨rfl, y⟩ := y
    have z := y vs (.of e1)
    rw [e3] at z
    cases z
    exact ⟨Nx.refl, hr1, rv⟩
  · refine ⟨vs, .of e1, ?_⟩
    rw [← r1.length]
    exact List.getElem?_eq_none_iff.mp (Option.some.inj q)
theorem rol_stay (n : Stay rho H rho' H') {a : Addr} {vs : List L2.V} (e : (∃ ob, H a = some (.frz ob (.lst vs)) ∧ a ∉ rho) ∨ L2.SqL K (fun _ => none) a vs) :
    (∃ ob, H' a = some (.frz ob (.lst vs)) ∧ a ∉ rho') ∨ L2.SqL K (fun _ => none) a vs := by
  rcases e with ⟨ob, e1, e2⟩ | e
  · exact .inl ⟨ob, n.frz _ _ _ e1 e2⟩
  · exact .inr e
theorem stepRol_ok (hr : HR K mg rho H h) {a : Addr} {xs : List A} {vs : List L2.V} (e : (∃ ob, H a = some (.frz ob (.lst vs)) ∧ a ∉ rho) ∨ L2.SqL K (fun _ => none) a vs) (r : RVs K mg rho H xs vs) : ItOk K mg rho H (stepX xs) (L2.Itl K a) := by
  intro rho1 H1 h1 i n1 hr1
  have e1 := rol_sq (rol_stay n1 e)
  have r1 := r.stay n1
  refine ⟨fun x q => ?_, fun q => ?_⟩
  · obtain ⟨v, e3, rv⟩ := r1.get (Option.some.inj q)
    refine ⟨⟨vs, v, e1, e3⟩, fun u H' y => ?_⟩
    obtain ⟨rfl, y⟩ := y
    have z := y vs e1
    rw [e3] at z
    cases z
    exact ⟨Nx.refl, hr1, rv⟩
  · refine ⟨vs, e1, ?_⟩
    rw [← r1.length]
    exact List.getElem?_eq_none_iff.mp (Option.some.inj q)
theorem stepR_ok {lo : Int} {n : Nat} : ItOk K mg rho H (stepR lo n) (L2.Itr lo n) := by
  intro rho1 H1 h1 i n1 hr1
  refine ⟨fun x q => ?_, fun q => ?_⟩
  · unfold stepR at q
    split at q
    · rename_i hi
      cases q
      refine ⟨hi, fun u H' y => ?_⟩
      obtain ⟨rfl, rfl⟩ := y
      exact ⟨Nx.refl, hr1, .int _⟩
    · cases q
  · unfold stepR at q
    split at q
    · cases q
    · rename_i hi; show n ≤ i; omega
end
section
variable {X : Cx} {W : WX} {e a b o i c tg : Expr} {es rest : List Expr} {body : List Stmt} {pos p apos cpos : Pos} {f fa fb fo : DE} {fc : DT} {g : DS} {ft : DA} 
/-- whether the function gives a tuple -/
def givesTup (f : DE) (n : Nat) (s : Sl) (h : Hs) : Bool := match f n s h with
  | .ok (.tup _) _ => true
  | _ => false
theorem i_seq (hf : PEd X W e f) : PId X W tg e (itSeq f) := by
  refine pi_weak (pi_or (L2.pi_list hf) (L2.pi_tup hf)) fun sg H R w => ?_
  obtain ⟨n, rho, s, h, hr, l, p⟩ := w
  cases q : givesTup f n s h with
  | false =>
    refine .inl ⟨n, rho, s, h, hr, l, Post.bindE p fun a h1 v rho1 H1 q1 n1 hr1 r1 p1 => ?_⟩
    cases r1 with
    | ref hp =>
      dsimp only at p1
      split at p1
      · rename_i xs hx
        obtain ⟨vs, e1, e2⟩ := hr1.lst hp hx
        exact ⟨_, rfl, ⟨vs, .of e1⟩, p1 _ rho1 H1 Nx.refl hr1 (stepL_ok hr1 hp)⟩
      · exact p1.elim
    | rol e1 r => exact ⟨_, rfl, ⟨_, rol_sq e1⟩, p1 _ rho1 H1 Nx.refl hr1 (stepRol_ok hr1 e1 r)⟩
    | tup _ _ => unfold givesTup at q; rw [q1] at q; cases q
    | _ => exact p1.elim
  | true =>
    refine .inr ⟨n, rho, s, h, hr, l, Post.bindE p fun a h1 v rho1 H1 q1 n1 hr1 r1 p1 => ?_⟩
    unfold givesTup at q
    rw [q1] at q
    cases r1 with
    | tup e1 r => exact ⟨_, rfl, ⟨_, .of e1⟩, p1 _ rho1 H1 Nx.refl hr1 (stepT_ok hr1 e1 r)⟩
    | _ => cases q
theorem i_rg1 (hg : L2.Gl X "range") (hm : X.mg "range" = none) (ha : PAd X W [a] ft) (hs : starEach [a] X.env = [(false, eval a X.env)] := by rfl) :
    PId X W tg (.Call (.Name "range" p) [a] [] pos) (itRg1 ft) := by
  refine pi_weak (L2.pi_range1 hg hm ha hs) fun sg H R w => ?_
  obtain ⟨n, rho, s, h, hr, l, p⟩ := w
  refine ⟨n, rho, s, h, hr, l, Post.bind p fun as h1 vs rho1 H1 n1 hr1 r1 p1 => ?_⟩
  split at p1
  · obtain ⟨v, rfl, rv⟩ := r1.one
    cases rv
    split at p1
    · rename_i j hz
      exact ⟨j, rfl, by omega, by omega, p1 _ rho1 H1 Nx.refl hr1 stepR_ok⟩
    · exact p1.elim
  · exact p1.elim
theorem i_rg2 (hg : L2.Gl X "range") (hm : X.mg "range" = none) (ha : PAd X W [a, b] ft) (hs : starEach [a, b] X.env = [(false, eval a X.env), (false, eval b X.env)] := by rfl) (hs2 : starEach [b] X.env = [(false, eval b X.env)] := by rfl) :
    PId X W tg (.Call (.Name "range" p) [a, b] [] pos) (itRg2 ft) := by
  refine pi_weak (L2.pi_range2 hg hm ha hs hs2) fun sg H R w => ?_
  obtain ⟨n, rho, s, h, hr, l, p⟩ := w
  refine ⟨n, rho, s, h, hr, l, Post.bind p fun as h1 vs rho1 H1 n1 hr1 r1 p1 => ?_⟩
  split at p1
  · cases r1 with
    | cons r rr => cases rr with
      | cons r' rr =>
        cases rr; cases r; cases r'
        split at p1
        · rename_i i j hz
          exact ⟨i, j, rfl, ⟨by omega, by omega, by omega, by omega⟩, p1 _ rho1 H1 Nx.refl hr1 stepR_ok⟩
        · exact p1.elim
  · exact p1.elim
end
/-! ### enumerate -/
section
variable {K : PySem.W.Frag} {mg : Str → Option Value} {rho rho' : List Addr} {H H' : Hp} {h h' : Hs}
theorem stepE_ok {st : Step} {J J' : L2.It} (o : ItOk K mg rho H st J) (hgo : ∀ i H, J.go i H → J'.go i H) (hst : ∀ i H, J.stop i H → J'.stop i H)
    (hy : ∀ i H v H', J.go i H → J'.yld i H v H' → ∃ T x, v = .ref T ∧ H T = none ∧ H' = L2.upd H T (.tup [.int (i : Nat), x]) ∧ J.yld i H x H) : ItOk K mg rho H (stepE st) J' := by
  intro rho1 H1 h1 i n1 hr1
  obtain ⟨o1, o2⟩ := o rho1 H1 h1 i n1 hr1
  refine ⟨fun x e => ?_, fun e => ?_⟩
  · unfold stepE at e
    cases q : st i h1 with
    | none => rw [q] at e; cases e
    | some z => cases z with
      | none => rw [q] at e; cases e
      | some y =>
        rw [q] at e
        have e' : A.tup [.int (i : Nat), y] = x := by simpa using e
        subst e'
        obtain ⟨g1, g2⟩ := o1 y q
        refine ⟨hgo _ _ g1, fun v H' yl => ?_⟩
        obtain ⟨T, w, rfl, hT, rfl, yl'⟩ := hy _ _ _ _ g1 yl
        obtain ⟨_, _, rw'⟩ := g2 _ _ yl'
        obtain ⟨n2, hr2⟩ := hr1.tup (u := .tup [.int (i : Nat), w]) hT
        exact ⟨n2, hr2, .tup L2.upd_same (.cons (.int _) (.cons (rw'.mono hr1 n2) .nil))⟩
  · unfold stepE at e
    cases q : st i h1 with
    | none => rw [q] at e; cases e
    | some z => cases z with
      | none => exact hst _ _ (o2 q)
      | some y => rw [q] at e; cases e
theorem stepEl_ok {st : Step} {a : Addr} (o : ItOk K mg rho H st (L2.Itl K a)) : ItOk K mg rho H (stepE st) (L2.Ite K a) :=
  stepE_ok o (fun _ _ g => g) (fun _ _ g => g) fun i H v H' g y => by
    obtain ⟨T, x, e1, e2, e3, e4⟩ := y
    exact ⟨T, x, e1, e2, e3, rfl, e4⟩
/-- the tuple at a, each item in a new pair -/
def IteT (K : PySem.W.Frag) (a : Addr) : L2.It :=
  ⟨fun i H => ∃ (xs : List L2.V) (x : L2.V), L2.SqT K H a xs ∧ xs[i]? = some x, fun i H v H' => ∃ T x, v = .ref T ∧ H T = none ∧ H' = L2.upd H T (.tup [.int (i : Nat), x]) ∧ ∀ xs, L2.SqT K H a xs → xs[i]? = some x, fun i H => ∃ xs : List L2.V, L2.SqT K H a xs ∧ xs.length ≤ i⟩
theorem stepEt_ok {st : Step} {a : Addr} (o : ItOk K mg rho H st (L2.Itt K a)) : ItOk K mg rho H (stepE st) (IteT K a) :=
  stepE_ok o (fun _ _ g => g) (fun _ _ g => g) fun i H v H' g y => by
    obtain ⟨T, x, e1, e2, e3, e4⟩ := y
    exact ⟨T, x, e1, e2, e3, rfl, e4⟩
end
end Dn

set_option maxHeartbeats 4000000
/-! Dn10: enumerate over a tuple, for. -/
namespace Dn
open PySem PySem.Sem PyProof.Rows
open L2 (PE PT PA PS PSs PG PGs PI Cx WX Takes HO Hp VK)
/-- enumerate's new object over anything that a walk begins over -/
theorem en_new {v : Value} {o : Obj} {P : Heap → Prop} (B : Begins v o P) :
    Meets (Builtin.«enumerate.__new__» ⟨[.type "enumerate", v], []⟩) (fun _ R s => P s.heap ∧
      R (.ok (.ret (.ref (s.heap.push o).objs.size))) { s with heap := (s.heap.push o).push { cls := .type "enumerate", data := .fields #[.none, .bool false, .ref s.heap.objs.size, rawInt 0, .none, .none] } }) :=
  .of_wp fun prog w A R s z => by
    obtain ⟨hp, g, d, tk, os⟩ := s
    obtain ⟨z1, z2⟩ := z
    have sb := sub_enumerate
    have it1 : ∀ {A' : Around} {E : Value → Shared → Prop} {Q : Value → Shared → Prop}, Q (.ref hp.objs.size) ⟨hp.push o, g, d, tk, os⟩ → wpAny (model prog w) A' (pyIter v) Q E ⟨hp, g, d, tk, os⟩ :=
      fun q => B.iter prog w _ _ ⟨hp, g, d, tk, os⟩ _ z1 q
    wp_walk using it1
    refine wpAny_stack_any fun st => wpAny_pure ?_
    split
    · rename_i c _ _ _ _ _
      cases (c == Value.type "enumerate") <;> (wp_walk using it1; exact ⟨_, rfl, z2⟩)
    · wp_walk using it1
      exact ⟨_, rfl, z2⟩
theorem en_call {prog : Program} {w : World} {A : Around} {E : Value → Shared → Prop} {s : Shared} {v : Value} {o : Obj} {P : Heap → Prop} {Q : Value → Shared → Prop} (B : Begins v o P) (z : P s.heap)
    (k : ∀ h', IsEnum h' (s.heap.objs.size + 1) s.heap.objs.size 0 .none → h'.get? s.heap.objs.size = some o → h'.objs.size = s.heap.objs.size + 2 → (∀ b o, s.heap.get? b = some o → h'.get? b = some o) → Q (.ref (s.heap.objs.size + 1)) { s with heap := h' }) :
    wpAny (model prog w) A (call (.type "enumerate") [v]) Q E s := by
  refine callType_new F.called_enumerate (by decide) (F.typeCall_enumerate_1 _) (F.newCall_enumerate_1 _) (fun obj => F.args_object_init_2 obj _) F.entry_enumerate_new (en_new B) ⟨z, ?_⟩
  have hz : (s.heap.push o).objs.size = s.heap.objs.size + 1 := Heap.size_push ..
  show _ ∧ _
  rw [hz]
  have he : IsEnum ((s.heap.push o).push { cls := .type "enumerate", data := .fields #[.none, .bool false, .ref s.heap.objs.size, rawInt 0, .none, .none] }) (s.heap.objs.size + 1) s.heap.objs.size 0 .none := by
    have q := Heap.get?_push_size (s.heap.push o) (o := { cls := .type "enumerate", data := .fields #[.none, .bool false, .ref s.heap.objs.size, rawInt 0, .none, .none] }) rfl
    rw [hz] at q; exact q
  exact ⟨⟨_, he, rfl⟩, k _ he (Heap.get?_push_of_some _ (Heap.get?_push_size _ B.free)) (by rw [Heap.size_push, hz]) fun b o' x => Heap.get?_push_of_some _ (Heap.get?_push_of_some _ x)⟩
theorem turn_enT {P : Program} {w : World} {K : PySem.W.Frag} {elts : List Expr} {kk : Nat} {tpos : Pos} (a e it : Addr) :
    L2.Turn P w K (.Tuple elts kk tpos) (IteT K a) [e, it] e (fun i h => (∃ old, IsEnum h e it ((i : Nat) : Int) old) ∧ h.IsTupleIter it a i ∧ e ≠ it) where
  mem := by simp
  obj := fun i h st b hb => by
    obtain ⟨⟨old, he⟩, ⟨o, ho, hc, hd⟩, _⟩ := st
    rcases (by simpa using hb : b = e ∨ b = it) with z | z
    · rw [z]; exact ⟨_, he, fun v q => nomatch q⟩
    · rw [z]; exact ⟨o, ho, fun v q => by rw [hd] at q; cases q⟩
  keep := fun i h h' st k => let ⟨⟨old, he⟩, hi, hne⟩ := st; ⟨⟨old, k e (by simp) _ he⟩, hi.at fun o q => k it (by simp) o q, hne⟩
  item := by
    intro X hP hw hK hc i pins s σ H E I hf st hg
    subst hP hw hK
    obtain ⟨⟨old, he⟩, hit, hne⟩ := st
    obtain ⟨xs, x, hq, hx⟩ := hg
    obtain ⟨its, rv, p, hz⟩ := I.tuple hq
    obtain ⟨u, hu, ru⟩ := rv.get hx
    have hel : e < s.heap.objs.size := Heap.lt_size he
    have hil : it < s.heap.objs.size := by obtain ⟨_, q, _⟩ := hit; exact Heap.lt_size q
    have ea : e ≠ a := fun z => by
      have p' : s.heap.IsTuple a its.toArray := p
      rw [← z] at p'
      obtain ⟨o, ho, hoc, _⟩ := p'
      rw [he] at ho; cases ho; exact absurd hoc (by simp)
    have ia : it ≠ a := fun z => by
      have p' : s.heap.IsTuple a its.toArray := p
      rw [← z] at p'
      obtain ⟨o, ho, hoc, _⟩ := p'
      obtain ⟨o2, ho2, hc2, _⟩ := hit
      rw [ho2] at ho; cases ho; rw [hoc] at hc2; exact absurd hc2 (by simp)
    have D : Draws X.prog X.w X.A.in1 it [it, a] its.toArray.size (fun i v => its.toArray[i]? = some v) (fun i h => h.IsTupleIter it a i ∧ h.IsTuple a its.toArray) := Draws.tuple (show X.A.in1.handled = none from I.ok.hd hc) it a (Ne.symm ia) its.toArray
    have hlt : i < its.toArray.size := by
      have q : its[i]? = some u := hu
      have := (List.getElem?_eq_some_iff.mp q).1
      simpa using this
    refine wpAny_pyNext_enum_itemD D he ⟨hit, p⟩ hlt hne (by simp [ea, hne]) fun u' h' tk hx' ho hit' hT hsz hk => ?_
    have eu : u' = u := by
      have q1 : its[i]? = some u' := by simpa using hx'
      have q2 : its[i]? = some u := hu
      rw [q1] at q2; exact Option.some.inj q2
    subst eu
    refine ⟨_, rfl, wpAny_letOwnedTupleGo_enum (s := { s with heap := h', toks := tk + 1 }) ho fun h'' he' sb => ?_⟩
    have hT2 : h''.get? s.heap.objs.size = some { cls := .type "tuple", data := .seq #[.int i tk, u'] } := (sb.2 _ (Nat.ne_of_gt hel)).trans hT
    have new : L2.ObjOk X.prog X.w (L2.upd H s.heap.objs.size (.tup [.int (i : Nat), x])) h'' s.heap.objs.size (.tup [.int (i : Nat), x]) :=
      ⟨by show 2 ≤ sizeLine; decide, [.int i tk, u'], .cons ⟨_, rfl⟩ (.cons ru .nil), ⟨_, hT2, rfl, _, rfl⟩⟩
    have I1 : L2.Inv X pins σ (L2.upd H s.heap.objs.size (.tup [.int (i : Nat), x])) { s with heap := h'', toks := tk + 1 } :=
      I.turnedNew (ch := [e, it]) (fun b ob hb q => (sb.2 b (fun z => hb (by simp [z]))).trans (hk b ob (fun z => hb (by simp [z])) (fun z => hb (by simp [z])) q)) hf (Nat.le_refl _) new
    refine ⟨.ref s.heap.objs.size, _, I1, rfl, ⟨_, x, rfl, I.hok.fresh (Nat.le_refl _), rfl, fun ys hy => by rw [I.tuple_inj hy hq]; exact hx⟩, ⟨⟨u', ?_⟩, hit'.1.at fun o q => (sb.2 it (Ne.symm hne)).trans q, hne⟩, fun b hb => ?_⟩
    · have e1 : ((i + 1 : Nat) : Int) = (i : Int) + 1 := by omega
      rw [e1]; exact he'
    · have hb' : b < s.heap.objs.size := by
        rcases (by simpa using hb : b = e ∨ b = it) with z | z
        · rw [z]; exact hel
        · rw [z]; exact hil
      rw [L2.upd_ne (Nat.ne_of_lt hb')]
      exact (hf b hb).1
  done := by
    intro X hP hw hK hc i pins s σ H E I hf st hg
    subst hP hw hK
    obtain ⟨⟨old, he⟩, hit, hne⟩ := st
    obtain ⟨xs, hq, hx⟩ := hg
    obtain ⟨its, rv, p, hz⟩ := I.tuple hq
    obtain ⟨f0, f1, f2, f3, f4, f5⟩ := hf it (by simp)
    have hl := rv.length
    have hT : s.TypeIs (.ref e) "enumerate" := ⟨_, he, rfl⟩
    show wpAny _ _ (pyNext (.ref e)) _ _ s
    unfold pyNext
    refine wpAny_bind (wpAny_attempt (wpAny_callSpecial?_slot (name := Str.ofString "__next__") hT F.slot_enumerate_next
      (wpAny_call_entry F.slot_enumerate_next hT F.entry_enumerate_next ?_ (F.args_enumerate_next_1 _))))
    show wpAny _ _ (field (.ref e) 2 >>= _) _ _ _
    refine wpAny_bind (wpAny_field he rfl (x := .ref it) rfl ?_)
    refine wpAny_bind (wpAny_nextOf_tuple_end (show X.A.in1.in1.handled = none from I.ok.hd hc) hit (show s.heap.IsTuple a its.toArray from p) (by simp; omega) fun h' x eb hx' => ?_)
    obtain ⟨o, ho, hc⟩ := hx'
    refine wpAny_bind (wpAny_isInstance (T := "StopIteration") (b := true) ⟨o, ho, hc⟩ isSubtype_stop ?_)
    exact wpAny_pure ⟨rfl, I.turned (t' := s.toks) (fun b o hb q => eb b o hb q) f0 f1 f3 f4 f5⟩
  self := fun A i s Q E st h => let ⟨⟨_, he⟩, _⟩ := st; wpAny_pyIter_enum he h
def iEnT (K : PySem.W.Frag) (ta : L2.TA) : L2.TI := fun σ H R => ta σ H fun vs H1 => ∃ a xs, vs = [.ref a] ∧ L2.SqT K H1 a xs ∧ R (IteT K a) H1
theorem pi_enT {X : Cx} {e : Expr} {ta : L2.TA} {p pos tpos : Pos} {elts : List Expr} {kk : Nat} (hg : L2.Gl X "enumerate") (hm : X.mg "enumerate" = none) (ha : PA X [e] ta) (hs : starEach [e] X.env = [(false, eval e X.env)] := by rfl) :
    PI X (.Tuple elts kk tpos) (.Call (.Name "enumerate" p) [e] [] pos) (iEnT X.K ta) := by
  refine ⟨fun pins s σ H R I h => ?_⟩
  refine Call_ (L2.ld_blt I hg hm boot_enumerate (PyProof.Rows.callWith_type1 (L2.thn (ha.run pos pins s σ H _ I h) fun us s1 ⟨vs, H1, I1, r1, q1⟩ => ?_) hs rfl))
  obtain ⟨a, xs, ex, hq, q⟩ := q1
  subst ex
  cases r1 with
  | cons r rr =>
    cases rr
    cases r
    obtain ⟨its, rv, p', hz⟩ := I1.tuple hq
    refine en_call (begins_tuple a its.toArray) p' fun h' he hit hsz hk => wpAny_pyIter_enum he ?_
    have I2 : L2.Inv X pins σ H1 { s1 with heap := h' } := I1.kept (t' := s1.toks) hk
    refine ⟨s1.heap.objs.size + 1, [s1.heap.objs.size + 1, s1.heap.objs.size], _, _, H1, rfl, I2, turn_enT a (s1.heap.objs.size + 1) s1.heap.objs.size, ⟨⟨.none, he⟩, ⟨_, hit, rfl, rfl⟩, Nat.succ_ne_self _⟩, fun b hb => ?_, q⟩
    have hle : s1.heap.objs.size ≤ b := by
      rcases (by simpa using hb : b = s1.heap.objs.size + 1 ∨ b = s1.heap.objs.size) with z | z
      · rw [z]; exact Nat.le_add_right _ _
      · rw [z]; exact Nat.le_refl _
    exact I1.fpOk hle (I1.hok.fresh hle)

section
variable {X : Cx} {W : WX} {e a b o i c tg iter : Expr} {es rest : List Expr} {body : List Stmt} {pos p apos cpos : Pos} {f fa fb fo : DE} {fc : DT} {gb : DS} {ft : DA}
/-- whether the arguments are one tuple -/
def givesTupA (f : DA) (n : Nat) (s : Sl) (h : Hs) : Bool := match f n s h with
  | .ok [.tup _] _ => true
  | _ => false
theorem i_en {elts : List Expr} {kk : Nat} {tpos : Pos} (hg : L2.Gl X "enumerate") (hm : X.mg "enumerate" = none) (ha : PAd X W [e] ft) (hs : starEach [e] X.env = [(false, eval e X.env)] := by rfl) :
    PId X W (.Tuple elts kk tpos) (.Call (.Name "enumerate" p) [e] [] pos) (itEn ft) := by
  refine pi_weak (pi_or (L2.pi_enum hg hm ha hs) (pi_enT hg hm ha hs)) fun sg H R w => ?_
  obtain ⟨n, rho, s, h, hr, l, p⟩ := w
  cases q : givesTupA ft n s h with
  | false =>
    refine .inl ⟨n, rho, s, h, hr, l, Post.bindE p fun as h1 vs rho1 H1 q1 n1 hr1 r1 p1 => ?_⟩
    split at p1
    · obtain ⟨v, rfl, rv⟩ := r1.one
      cases rv with
      | ref hp =>
        split at p1
        · rename_i xs hx
          obtain ⟨vs, e1, e2⟩ := hr1.lst hp hx
          exact ⟨_, _, rfl, .of e1, p1 _ rho1 H1 Nx.refl hr1 (stepEl_ok (stepL_ok hr1 hp))⟩
        · exact p1.elim
    · unfold givesTupA at q; rw [q1] at q; cases q
    · obtain ⟨v, rfl, rv⟩ := r1.one
      cases rv with
      | rol e1 r => exact ⟨_, _, rfl, rol_sq e1, p1 _ rho1 H1 Nx.refl hr1 (stepEl_ok (stepRol_ok hr1 e1 r))⟩
    · exact p1.elim
  | true =>
    refine .inr ⟨n, rho, s, h, hr, l, Post.bindE p fun as h1 vs rho1 H1 q1 n1 hr1 r1 p1 => ?_⟩
    unfold givesTupA at q
    rw [q1] at q
    split at q
    · rename_i e1
      cases e1
      obtain ⟨v, rfl, rv⟩ := r1.one
      cases rv with
      | tup e1 r => exact ⟨_, _, rfl, .of e1, p1 _ rho1 H1 Nx.refl hr1 (stepEt_ok (stepT_ok hr1 e1 r))⟩
    · cases q
/-! ### for -/
def forL (st : Step) (tg : DG) (b : DS) (n : Nat) : Nat → Nat → Sl → Hs → RS
  | 0, _, _, _ => .no
  | k + 1, i, s, h => match st i h with
    | none => .no
    | some none => .nx s h
    | some (some x) => match tg x s with
      | none => .no
      | some s1 => match b n s1 h with
        | .nx s2 h2 => forL st tg b n k (i + 1) s2 h2
        | .ct s2 h2 => forL st tg b n k (i + 1) s2 h2
        | .bk s2 h2 => .nx s2 h2
        | r => r
def forD (it : DI) (tg : DG) (b : DS) : DS := fun n s h => (it n s h).then s fun st h1 => forL st tg b n n 0 s h1
theorem s_for {fi : DI} {g : DG} {ix : List Nat} (hp : PassesOwn (model X.prog X.w) X.A X.env X.xe) (hc : X.calm = true) (hi : PId X W tg iter fi) (hg : PGd X tg g ix) (hb : PBd X W body gb)
    (hs : ∀ x, foldedSetIterable iter X.env x = pure x := by intro _; rfl) : PSd X W (.For tg iter body [] pos) (forD fi g gb) := by
  refine ps_weak (L2.ps_for hp hc hi hg hb hs) fun D sg H w => ?_
  obtain ⟨n, rho, s, h, hr, l, p⟩ := w
  refine ⟨n, rho, s, h, hr, l, PostS.then hr l p fun st h1 J rho1 H1 n1 hr1 o1 p1 => ?_⟩
  refine ⟨fun i m sg H => ∃ rho' s' h', Nx rho1 H1 rho' H ∧ HR X.K X.mg rho' H h' ∧ SlR X.K X.mg rho' H s' sg ∧ PostS X.K X.mg rho' H W D (forL st g gb n m i s' h'), ⟨n, rho1, s, h1, Nx.refl, hr1, l.mono hr n1, p1⟩, ?_⟩
  clear p1
  rintro i m sg' H' ⟨rho2, s2, h2, n2, hr2, l2, p2⟩
  cases m with
  | zero => exact p2.elim
  | succ k =>
    rw [forL] at p2
    obtain ⟨oa, ob⟩ := o1 rho2 H' h2 i (n2.stay hr1) hr2
    cases q : st i h2 with
    | none => rw [q] at p2; exact p2.elim
    | some z => cases z with
      | none =>
        rw [q] at p2
        exact .inl ⟨ob q, p2 sg' rho2 H' Nx.refl hr2 l2⟩
      | some x =>
        rw [q] at p2
        dsimp only at p2
        obtain ⟨go, yl⟩ := oa x q
        refine .inr ⟨go, fun sg H => ∃ rho' s' h', Nx rho1 H1 rho' H ∧ HR X.K X.mg rho' H h' ∧ SlR X.K X.mg rho' H s' sg ∧ PostS X.K X.mg rho' H W D (forL st g gb n k (i + 1) s' h'), fun sg2 H2 z => ⟨k, Nat.lt_succ_self k, z⟩, fun v H3 y => ?_⟩
        obtain ⟨n3, hr3, rv⟩ := yl v H3 y
        cases q2 : g x s2 with
        | none => rw [q2] at p2; exact p2.elim
        | some s3 =>
          rw [q2] at p2
          dsimp only at p2
          refine ⟨rho2, s2, h2, x, hr3, l2.mono hr2 n3, rv, s3, q2, fun sg4 l4 _ _ => ?_⟩
          refine ⟨n, rho2, s3, h2, hr3, l4, ?_⟩
          revert p2
          cases gb n s3 h2 with
          | nx s5 h5 => intro p2; exact fun sg6 rho6 H6 n6 hr6 l6 => ⟨rho6, s5, h5, n2.trans hr2 (n3.trans hr3 n6), hr6, l6, PostS.mono hr6 (n3.trans hr3 n6) p2⟩
          | ct s5 h5 => intro p2; exact fun sg6 rho6 H6 n6 hr6 l6 => ⟨rho6, s5, h5, n2.trans hr2 (n3.trans hr3 n6), hr6, l6, PostS.mono hr6 (n3.trans hr3 n6) p2⟩
          | bk s5 h5 => intro p2; exact fun sg6 rho6 H6 n6 hr6 l6 => p2 sg6 rho6 H6 (n3.trans hr3 n6) hr6 l6
          | rt a h5 => intro p2; exact fun v rho6 H6 n6 hr6 r6 => p2 v rho6 H6 (n3.trans hr3 n6) hr6 r6
          | ex x s5 h5 => intro p2; exact fun c d sg6 rho6 H6 n6 hr6 l6 r6 => p2 c d sg6 rho6 H6 (n3.trans hr3 n6) hr6 l6 r6
          | no => intro p2; exact p2
end
end Dn

set_option maxHeartbeats 4000000
/-! Dn11: comprehensions. -/
namespace Dn
open PySem
open L2 (PE PT PA PS PSs PG PGs PI Cx WX Takes HO Hp VK)
def W0 : WX := fun _ _ _ _ => False
theorem takes0 {X : Cx} : Takes X W0 := fun u s' ⟨_, _, _, _, _, _, _, _, _, _, _, _, _, _, _, _, w⟩ => w.elim
def R.calm {α : Type} (r : R α) : R α := match r with
  | .ok a h => .ok a h
  | _ => .no
def wipeA (s : Sl) : List Nat → Sl
  | [] => s
  | v :: vs => (wipeA s vs).set v none
theorem Stay.refl {rho : List Addr} {H : Hp} : Stay rho H rho H := ⟨fun _ _ e => e, fun _ _ e => e, fun _ _ _ e o => ⟨e, o⟩, fun _ _ e => e⟩
theorem Stay.trans {rho rho' rho'' : List Addr} {H H' H'' : Hp} (a : Stay rho H rho' H') (b : Stay rho' H' rho'' H'') : Stay rho H rho'' H'' :=
  ⟨fun i x e => b.pre i x (a.pre i x e), fun x xs e => b.tups x xs (a.tups x xs e), fun x ob xs e o => let ⟨e1, o1⟩ := a.frz x ob xs e o; b.frz x ob xs e1 o1, fun x f e => b.exts x f (a.exts x f e)⟩
section
variable {K : PySem.W.Frag} {mg : Str → Option Value} {rho rho' : List Addr} {H H' : Hp} {h h' : Hs} {s : Sl} {sg : L2.St}
theorem SlR.stay (n : Stay rho H rho' H') (l : SlR K mg rho H s sg) : SlR K mg rho' H' s sg := ⟨l.len, fun i a e => let ⟨v, e1, r⟩ := l.get i a e; ⟨v, e1, r.stay n⟩⟩
theorem SlR.wipe (l : SlR K mg rho H s sg) : ∀ vs : List Nat, SlR K mg rho H (wipeA s vs) (L2.wipe sg vs)
  | [] => l
  | v :: vs => by
    have q := SlR.wipe l vs
    refine ⟨by unfold wipeA L2.wipe; rw [List.length_set, List.length_set]; exact q.len, fun i a e => ?_⟩
    unfold wipeA at e
    unfold L2.wipe
    by_cases hv : v = i
    · subst hv
      by_cases hl : v < (wipeA s vs).length
      · rw [List.getElem?_set_self hl] at e; cases e
      · rw [List.getElem?_eq_none (by simpa using hl)] at e; cases e
    · rw [List.getElem?_set_ne hv] at e ⊢
      exact q.get i a e
theorem wipe_get (sg : L2.St) (i : Nat) : ∀ vs : List Nat, (L2.wipe sg vs)[i]? = if i ∈ vs then (sg[i]?).map fun _ => none else sg[i]?
  | [] => by simp [L2.wipe]
  | v :: vs => by
    have q := wipe_get sg i vs
    unfold L2.wipe
    by_cases hv : v = i
    · subst hv
      simp only [List.mem_cons, true_or, if_true]
      by_cases hl : v < sg.length
      · rw [List.getElem?_set_self (by rw [L2.wipe_length]; exact hl), List.getElem?_eq_getElem hl]; rfl
      · rw [List.getElem?_eq_none (by rw [List.length_set, L2.wipe_length]; omega), List.getElem?_eq_none (by omega)]; rfl
    · rw [List.getElem?_set_ne hv, q]
      have : (i ∈ v :: vs) = (i ∈ vs) := by simp [List.mem_cons, Ne.symm hv]
      simp only [this]
theorem wipe_eq {sg1 sg : L2.St} {ix vs : List Nat} (hl : sg1.length = (L2.wipe sg vs).length) (hk : ∀ j, j ∉ ix → sg1[j]? = (L2.wipe sg vs)[j]?) (hix : ∀ j ∈ ix, j ∈ vs) : L2.wipe sg1 vs = L2.wipe sg vs := by
  refine List.ext_getElem? fun i => ?_
  rw [wipe_get, wipe_get]
  by_cases hi : i ∈ vs
  · rw [if_pos hi, if_pos hi]
    rw [L2.wipe_length] at hl
    by_cases q : i < sg.length
    · rw [List.getElem?_eq_getElem q, List.getElem?_eq_getElem (by omega)]; rfl
    · rw [List.getElem?_eq_none (by omega), List.getElem?_eq_none (by omega)]
  · rw [if_neg hi, if_neg hi, hk i (fun z => hi (hix i z)), wipe_get, if_neg hi]
/-- a thing beside the heap that is neither a tuple nor locked -/
def Side : L2.HO → Prop
  | .lst _ => True
  | .dK _ => True
  | .dT _ => True
  | _ => False
theorem side_stay {D : Addr} {o u : L2.HO} (e : H D = some o) (ho : Side o) : Stay rho H rho (L2.upd H D u) := by
  refine ⟨fun _ _ q => q, fun a xs q => ?_, fun a ob xs q z => ⟨?_, z⟩, fun a f q => ?_⟩
  · rw [L2.upd_ne (fun z => by rw [z, e] at q; cases q; exact ho)]; exact q
  · rw [L2.upd_ne (fun z => by rw [z, e] at q; cases q; exact ho)]; exact q
  · rw [L2.upd_ne (fun z => by rw [z, e] at q; cases q; exact ho)]; exact q
theorem side_hr (hr : HR K mg rho H h) {D : Addr} {o u : L2.HO} (hD : D ∉ rho) (e : H D = some o) (ho : Side o) : HR K mg rho (L2.upd H D u) h := by
  refine ⟨hr.len, hr.nd, fun i a o' e1 e2 => ?_, hr.tabs⟩
  obtain ⟨w, hw, r⟩ := hr.get i a o' e1 e2
  exact ⟨w, by rw [L2.upd_ne (fun z => hD (by rw [← z]; exact List.mem_of_getElem? e1))]; exact hw, r.stay (side_stay e ho)⟩
theorem side_new (hr : HR K mg rho H h) {D : Addr} {u : L2.HO} (e : H D = none) : D ∉ rho ∧ Stay rho H rho (L2.upd H D u) ∧ HR K mg rho (L2.upd H D u) h ∧ Nx rho H rho (L2.upd H D u) := by
  obtain ⟨n, hr'⟩ := hr.tup (u := u) e
  refine ⟨fun m => ?_, n.stay hr, hr', n⟩
  obtain ⟨_, _, w, _, _, hw, _⟩ := hr.ex m
  rw [e] at hw; cases hw
theorem side_nx {rho1 : List Addr} {H1 : Hp} {D : Addr} {o u : L2.HO} (n : Nx rho1 H1 rho H) (hD : H1 D = none) (eD : H D = some o) (ho : Side o) : Nx rho1 H1 rho (L2.upd H D u) :=
  ⟨n.pre, fun b o e nb t => by rw [L2.upd_ne (L2.ne_of_none e hD)]; exact n.keep b o e nb t, n.fresh, n.mem⟩
theorem side_adopt (hr : HR K mg rho H h) {D : Addr} {o : L2.HO} {x : AO} (hD : D ∉ rho) (e : H D = some o) (ho : Side o) (r : RO K mg rho H x o) : HR K mg (rho ++ [D]) H (h ++ [x]) := by
  have st : Stay rho H (rho ++ [D]) H := by
    refine ⟨fun i a q => ?_, fun _ _ q => q, fun a ob xs q z => ⟨q, fun m => ?_⟩, fun _ _ q => q⟩
    · rw [List.getElem?_append_left (List.getElem?_eq_some_iff.mp q).1]; exact q
    · rcases List.mem_append.mp m with y | y
      · exact z y
      · have : a = D := by simpa using y
        rw [this, e] at q; cases q; exact ho
  refine ⟨by rw [List.length_append, List.length_append, hr.len]; rfl, ?_, fun i a o' e1 e2 => ?_, fun i P q e => tabs_app hr (fun P q z => by subst z; cases r; exact ho) e⟩
  · rw [List.nodup_append]
    refine ⟨hr.nd, List.pairwise_singleton _ _, fun a ha b hb q => ?_⟩
    have : b = D := by simpa using hb
    exact hD (by rw [← this, ← q]; exact ha)
  · by_cases hi : i < rho.length
    · rw [List.getElem?_append_left hi] at e1
      rw [List.getElem?_append_left (by rw [← hr.len]; exact hi)] at e2
      obtain ⟨w, hw, r⟩ := hr.get i a o' e1 e2
      exact ⟨w, hw, r.stay st⟩
    · have hl := (List.getElem?_eq_some_iff.mp e1).1
      rw [List.length_append, List.length_singleton] at hl
      have hi' : i = rho.length := by omega
      subst hi'
      rw [List.getElem?_append_right (Nat.le_refl _), Nat.sub_self] at e1
      have ea : D = a := by simpa using e1
      subst ea
      rw [hr.len, List.getElem?_append_right (Nat.le_refl _), Nat.sub_self] at e2
      have eo : x = o' := by simpa using e2
      subst eo
      exact ⟨o, e, r.stay st⟩
theorem adopt_nx {rho1 : List Addr} {H1 : Hp} {D : Addr} (n : Nx rho1 H1 rho H) (hD : H1 D = none) : Nx rho1 H1 (rho ++ [D]) H := by
  refine ⟨fun i a e => ?_, n.keep, fun a h1 h2 o e => ?_, fun a m => List.mem_append_left _ (n.mem a m)⟩
  · rw [List.getElem?_append_left (List.getElem?_eq_some_iff.mp (n.pre i a e)).1]; exact n.pre i a e
  · rcases List.mem_append.mp h1 with z | z
    · exact n.fresh a z h2 o e
    · have q : a = D := by simpa using z
      rw [q, hD] at e
      cases e
theorem adopt_get {rho1 : List Addr} {H1 : Hp} {D : Addr} (hr : HR K mg rho H h) : (rho ++ [D])[h.length]? = some D := by
  rw [← hr.len, List.getElem?_append_right (Nat.le_refl _), Nat.sub_self]; rfl
end
/-! ### [elt for tg in iter if ..] -/
def lcL (st : Step) (g : DG) (t : DT) (e : DE) (n : Nat) : Nat → Nat → List A → Sl → Hs → R (List A)
  | 0, _, _, _, _ => .no
  | k + 1, i, acc, s, h => match st i h with
    | none => .no
    | some none => .ok acc h
    | some (some x) => match g x s with
      | none => .no
      | some s1 => (t n s1 h).calm.bind fun b h1 => if b = true then (e n s1 h1).calm.bind fun a h2 => if acc.length < sizeLine then lcL st g t e n k (i + 1) (acc ++ [a]) s h2 else .no
        else lcL st g t e n k (i + 1) acc s h1
section
variable {K : PySem.W.Frag} {mg : Str → Option Value}
theorem calm_in {α β γ γ' : Type} {rel : List Addr → Hp → α → β → Prop} {relv : List Addr → Hp → γ → γ' → Prop} {rho1 rho : List Addr} {H1 H : Hp} {Wx : Value → Option Addr → Hp → Prop} {Q : γ' → Hp → Prop} {Q' : β → Hp → Prop} {W : Value → Option Addr → Hp → Prop} {r : R α} {k : α → Hs → R γ}
    (p : Post K mg relv rho1 H1 Wx Q (r.calm.bind k)) (c : ∀ a h1 b rho2 H2, Nx rho H rho2 H2 → HR K mg rho2 H2 h1 → rel rho2 H2 a b → Post K mg relv rho1 H1 Wx Q (k a h1) → Q' b H2) : Post K mg rel rho H W Q' r := by
  cases r with
  | ok a h1 => exact fun b rho2 H2 n2 hr2 r2 => c a h1 b rho2 H2 n2 hr2 r2 p
  | ex x h1 => exact p.elim
  | no => exact p.elim
/-- the turns of one clause, D beside -/
theorem lc_run {γ γ' : Type} {relv : List Addr → Hp → γ → γ' → Prop} {st : Step} {J : L2.It} {g : DG} {t : DT} {e : DE} {n : Nat} {rho0 rho1 rhoS : List Addr} {H0 H1 HS : Hp} {hS : Hs} {D : Addr} {sw : Sl} {sg : L2.St} {vs : List Nat} {ix : List Nat} {Wx : Value → Option Addr → Hp → Prop} {Q : γ' → Hp → Prop} {Qe : Hp → Prop} {k : List A → Hs → R γ}
    {accS : List A} {vsS : List L2.V} (o1 : ItOk K mg rho0 H0 st J) (hD : H1 D = none) (lw : SlR K mg rho0 H0 sw (L2.wipe sg vs)) (hix : ∀ j ∈ ix, j ∈ vs)
    (nS : Nx rho1 H1 rhoS HS) (sS : Stay rho0 H0 rhoS HS) (hrS : HR K mg rhoS HS hS) (dS : D ∉ rhoS) (eS : HS D = some (.lst vsS)) (rS : RVs K mg rhoS HS accS vsS) (m0 : Nat) (p : Post K mg relv rho1 H1 Wx Q ((lcL st g t e n m0 0 accS sw hS).bind k))
    (fin : ∀ acc h' us rho' H', Nx rho1 H1 rho' H' → HR K mg rho' H' h' → D ∉ rho' → H' D = some (.lst us) → RVs K mg rho' H' acc us → Stay rho0 H0 rho' H' → Post K mg relv rho1 H1 Wx Q (k acc h') → Qe H') :
    ∃ W : Nat → Nat → Hp → Prop, (∃ m, W 0 m HS) ∧ ∀ i m H, W i m H →
      (J.stop i H ∧ Qe H) ∨ (J.go i H ∧ ∃ Nx : Hp → Prop, (∀ H', Nx H' → ∃ m', m' < m ∧ W (i + 1) m' H') ∧ ∀ x H', J.yld i H x H' → tG K mg g ix x (L2.wipe sg vs) H' fun σ2 H2 => L2.wipe σ2 vs = L2.wipe sg vs ∧ tT K mg W0 t σ2 H2 fun b H3 =>
        if b = true then tE K mg W0 e σ2 H3 fun y H4 => ∃ acc, H4 D = some (.lst acc) ∧ acc.length < sizeLine ∧ Nx (L2.upd H4 D (.lst (acc ++ [y]))) else Nx H3) := by
  refine ⟨fun i m H => ∃ rho' h' acc us, Nx rho1 H1 rho' H ∧ Stay rho0 H0 rho' H ∧ HR K mg rho' H h' ∧ D ∉ rho' ∧ H D = some (.lst us) ∧ RVs K mg rho' H acc us ∧ Post K mg relv rho1 H1 Wx Q ((lcL st g t e n m i acc sw h').bind k),
    ⟨m0, rhoS, hS, accS, vsS, nS, sS, hrS, dS, eS, rS, p⟩, ?_⟩
  clear p rS eS dS hrS sS nS
  rintro i m H ⟨rho2, h2, acc, us, n2, s2, hr2, d2, e2, r2, p2⟩
  cases m with
  | zero => exact p2.elim
  | succ q =>
    rw [lcL] at p2
    obtain ⟨oa, ob⟩ := o1 rho2 H h2 i s2 hr2
    cases z : st i h2 with
    | none => rw [z] at p2; exact p2.elim
    | some y => cases y with
      | none =>
        rw [z] at p2
        exact .inl ⟨ob z, fin acc h2 us rho2 H n2 hr2 d2 e2 r2 s2 p2⟩
      | some x =>
        rw [z] at p2
        dsimp only at p2
        obtain ⟨go, yl⟩ := oa x z
        refine .inr ⟨go, fun H => ∃ rho' h' acc us, Nx rho1 H1 rho' H ∧ Stay rho0 H0 rho' H ∧ HR K mg rho' H h' ∧ D ∉ rho' ∧ H D = some (.lst us) ∧ RVs K mg rho' H acc us ∧ Post K mg relv rho1 H1 Wx Q ((lcL st g t e n q (i + 1) acc sw h').bind k), fun H2 z => ⟨q, Nat.lt_succ_self q, z⟩, fun v H3 y => ?_⟩
        obtain ⟨n3, hr3, rv⟩ := yl v H3 y
        cases q2 : g x sw with
        | none => rw [q2] at p2; exact p2.elim
        | some s3 =>
          rw [q2] at p2
          dsimp only at p2
          have st3 := s2.trans (n3.stay hr2)
          refine ⟨rho2, sw, h2, x, hr3, lw.stay st3, rv, s3, q2, fun sg4 l4 z4 k4 => ⟨wipe_eq z4 k4 hix, ?_⟩⟩
          have e3 : H3 D = some (.lst us) := n3.keep _ _ e2 d2 (by intro _ z; cases z)
          have p3 : Post K mg relv rho1 H1 Wx Q (R.bind (R.calm (t n s3 h2)) fun b h1 => R.bind (if b = true then (e n s3 h1).calm.bind fun a h2 => if acc.length < sizeLine then lcL st g t e n q (i + 1) (acc ++ [a]) sw h2 else .no else lcL st g t e n q (i + 1) acc sw h1) k) := by
            revert p2
            cases t n s3 h2 <;> exact id
          refine ⟨n, rho2, s3, h2, hr3, l4, calm_in p3 fun b h5 b' rho5 H5 n5 hr5 r5 p5 => ?_⟩
          subst r5
          have d5 : D ∉ rho5 := n5.out e3 d2
          have e5 : H5 D = some (.lst us) := n5.keep _ _ e3 d2 (by intro _ z; cases z)
          have r5 := (r2.mono hr2 n3).mono hr3 n5
          have n15 := n2.trans hr2 (n3.trans hr3 n5)
          have st5 := st3.trans (n5.stay hr3)
          cases b with
          | false => exact ⟨rho5, h5, acc, us, n15, st5, hr5, d5, e5, r5, p5⟩
          | true =>
            rw [if_pos rfl] at p5 ⊢
            have p6 : Post K mg relv rho1 H1 Wx Q (R.bind (R.calm (e n s3 h5)) fun a h2 => R.bind (if acc.length < sizeLine then lcL st g t e n q (i + 1) (acc ++ [a]) sw h2 else .no) k) := by
              revert p5
              cases e n s3 h5 <;> exact id
            refine ⟨n, rho5, s3, h5, hr5, l4.mono hr3 n5, calm_in p6 fun a h7 w rho7 H7 n7 hr7 r7 p7 => ?_⟩
            have d7 : D ∉ rho7 := n7.out e5 d5
            have e7 : H7 D = some (.lst us) := n7.keep _ _ e5 d5 (by intro _ z; cases z)
            have r8 := r5.mono hr5 n7
            split at p7
            · rename_i hz
              refine ⟨us, e7, by rw [← r8.length]; exact hz, rho7, h7, acc ++ [a], us ++ [w], side_nx (n15.trans hr5 n7) hD e7 trivial, (st5.trans (n7.stay hr5)).trans (side_stay e7 trivial), side_hr hr7 d7 e7 trivial, d7, L2.upd_same, ?_, p7⟩
              exact (r8.stay (side_stay e7 trivial)).append (.cons (r7.stay (side_stay e7 trivial)) .nil)
            · exact p7.elim
def lcD (it : DI) (g : DG) (t : DT) (e : DE) (vs : List Nat) : DE := fun n s h => (it n s h).bind fun st h1 => (lcL st g t e n n 0 [] (wipeA s vs) h1).bind newL
def yesT : DT := fun _ _ h => .ok true h
end
abbrev PTsd (X : Cx) (W : WX) (ifs : List Expr) (f : DT) : Prop := L2.PTs X ifs (tT X.K X.mg W f)
section
variable {X : Cx} {W : WX} {e a b o i c tg iter elt : Expr} {es rest ifs : List Expr} {body : List Stmt} {pos p apos cpos : Pos} {f fe : DE} {fc ft : DT} {fi : DI} {g : DG} {ix : List Nat} {scope : Scope} {own : List (Str × Nat)}
theorem ts_nil : PTsd X W [] yesT := ⟨fun pins s sg H Q I w => by
  obtain ⟨n, rho, sl, h, hr, l, p⟩ := w
  exact L2.pts_nil.run pins s sg H Q I (p true rho H Nx.refl hr rfl)⟩
theorem ts_one (h : PTd X W c fc) : PTsd X W [c] fc := L2.pts_one h
/-- the list is taken into the heap -/
theorem new_fin {K : PySem.W.Frag} {mg : Str → Option Value} {rho1 : List Addr} {H1 : Hp} {D : Addr} {Wx : Value → Option Addr → Hp → Prop} {Q : VK} (hD : H1 D = none) {acc : List A} {h' : Hs} {us : List L2.V} {rho' : List Addr} {H' : Hp} (n : Nx rho1 H1 rho' H') (hr : HR K mg rho' H' h') (d : D ∉ rho') (e : H' D = some (.lst us)) (r : RVs K mg rho' H' acc us)
    (p : PostV K mg rho1 H1 Wx Q (newL acc h')) : Q (.ref D) H' :=
  p (.ref D) (rho' ++ [D]) H' (adopt_nx n hD) (side_adopt hr d e trivial (.lst r)) (.ref (adopt_get (rho1 := rho1) (H1 := H1) hr))
theorem lc_t {sg : L2.St} {H : Hp} {Q : VK} (hix : ∀ j ∈ ix, j ∈ own.map (·.2)) (w : tE X.K X.mg W (lcD fi g ft fe (own.map (·.2))) sg H Q) :
    L2.tLc (tI X.K X.mg W fi) (tG X.K X.mg g ix) (tT X.K X.mg W0 ft) (tE X.K X.mg W0 fe) (own.map (·.2)) sg H Q := by
  obtain ⟨n, rho, s, h, hr, l, p⟩ := w
  refine ⟨n, rho, s, h, hr, l, Post.bind p fun st h1 J rho1 H1 n1 hr1 o1 p1 D hD => ?_⟩
  obtain ⟨d1, st1, hr2, n2⟩ := side_new hr1 (u := .lst []) hD
  exact lc_run o1 hD ((l.mono hr n1).wipe _) hix n2 st1 hr2 d1 L2.upd_same .nil n p1 fun acc h' us rho' H' n' hr' d' e' r' _ p' => new_fin hD n' hr' d' e' r' p'
theorem d_lc (hc : X.calm = true) (hN : X.N.Nodup) (hi : PId X W tg iter fi) (ok : L2.BlkOk X.N X.env.scope scope own)
    (hg : ∀ (s : Shared) (H : Hp) (C : Addr) (cl : List (Str × Addr)) (fp : List Addr), PGd (X.blk s H scope (compEnvC scope cl C X.env) fp) tg g ix) (hix : ∀ j ∈ ix, j ∈ own.map (·.2))
    (ht : ∀ (s : Shared) (H : Hp) (C : Addr) (cl : List (Str × Addr)) (fp : List Addr), PTsd (X.blk s H scope (compEnvC scope cl C X.env) fp) W0 ifs ft)
    (he : ∀ (s : Shared) (H : Hp) (C : Addr) (cl : List (Str × Addr)) (fp : List Addr), PEd (X.blk s H scope (compEnvC scope cl C X.env) fp) W0 elt fe) (hs : ∀ x, foldedSetIterable iter X.env x = pure x := by intro _; rfl) :
    PEd X W (.ListComp elt [⟨tg, iter, ifs, 0⟩] scope pos) (lcD fi g ft fe (own.map (·.2))) :=
  pe_weak (L2.pe_lc hc hN hi ok hg ht he hs) fun sg H Q w => lc_t hix w
theorem s_setLc {i : Nat} {y : Str} {py spos : Pos} (hc : X.calm = true) (hN : X.N.Nodup) (hy : X.N[i]? = some y) (hyl : X.env.scope.names.lookup y = some .local)
    (hsw : swapsWith (.ListComp elt [⟨tg, iter, ifs, 0⟩] scope pos) (some (.Name y py)) spos.line X.env = pure true) (hi : PId X W tg iter fi) (ok : L2.BlkOk X.N X.env.scope scope own)
    (hg : ∀ (s : Shared) (H : Hp) (C : Addr) (cl : List (Str × Addr)) (fp : List Addr), PGd (X.blk s H scope (compEnvC scope cl C X.env) fp) tg g ix) (hix : ∀ j ∈ ix, j ∈ own.map (·.2))
    (ht : ∀ (s : Shared) (H : Hp) (C : Addr) (cl : List (Str × Addr)) (fp : List Addr), PTsd (X.blk s H scope (compEnvC scope cl C X.env) fp) W0 ifs ft)
    (he : ∀ (s : Shared) (H : Hp) (C : Addr) (cl : List (Str × Addr)) (fp : List Addr), PEd (X.blk s H scope (compEnvC scope cl C X.env) fp) W0 elt fe) (hs : ∀ x, foldedSetIterable iter X.env x = pure x := by intro _; rfl) :
    PSd X W (.Assign [.Name y py] (.ListComp elt [⟨tg, iter, ifs, 0⟩] scope pos) spos) (setD i (lcD fi g ft fe (own.map (·.2)))) := by
  refine ps_weak (L2.ps_setLc (te := tE X.K X.mg W0 fe) (g := tG X.K X.mg g ix) (tt := tT X.K X.mg W0 ft) hc hN hy hyl hsw hi ok hg ht he hs) fun D sg H w => ?_
  obtain ⟨n, rho, s, h, hr, l, p⟩ := w
  refine lc_t hix ⟨n, rho, s, h, hr, l, PostS.then hr l p fun a h1 v rho1 H1 n1 hr1 r1 p1 => ?_⟩
  exact p1 _ rho1 H1 Nx.refl hr1 ((l.mono hr n1).set r1 i)
end
end Dn

set_option maxHeartbeats 4000000
/-! Dn12: comprehensions of two clauses, of dicts; new dicts; xs[i] += e; max with a default. -/
namespace Dn
open PySem
open L2 (PE PT PA PS PSs PG PGs PI Cx WX Takes HO Hp VK)
/-! ### two clauses -/
def lc2L (st : Step) (g : DG) (t : DT) (it1 : DI) (vs1 : List Nat) (g1 : DG) (t1 : DT) (e : DE) (n : Nat) : Nat → Nat → List A → Sl → Hs → R (List A)
  | 0, _, _, _, _ => .no
  | k + 1, i, acc, s, h => match st i h with
    | none => .no
    | some none => .ok acc h
    | some (some x) => match g x s with
      | none => .no
      | some s1 => (t n s1 h).calm.bind fun b h1 => if b = true then (it1 n s1 h1).calm.bind fun st1 h2 => (lcL st1 g1 t1 e n n 0 acc (wipeA s1 vs1) h2).bind fun acc' h3 => lc2L st g t it1 vs1 g1 t1 e n k (i + 1) acc' s h3
        else lc2L st g t it1 vs1 g1 t1 e n k (i + 1) acc s h1
def lc2D (it : DI) (g : DG) (t : DT) (it1 : DI) (vs1 : List Nat) (g1 : DG) (t1 : DT) (e : DE) (vs : List Nat) : DE := fun n s h => (it n s h).bind fun st h1 => (lc2L st g t it1 vs1 g1 t1 e n n 0 [] (wipeA s vs) h1).bind newL
section
variable {X : Cx} {W : WX} {e a b o i c tg iter elt tg1 iter1 : Expr} {es rest ifs ifs1 : List Expr} {body : List Stmt} {pos p apos cpos : Pos} {f fe fk fv : DE} {fc ft ft1 : DT} {fi fi1 : DI} {g g1 : DG} {ix ix1 vs1 : List Nat} {scope : Scope} {own : List (Str × Nat)}
theorem bind_bind {α β γ : Type} (r : R α) (k : α → Hs → R β) (q : β → Hs → R γ) : (r.bind k).bind q = r.bind fun a h => (k a h).bind q := by cases r <;> rfl
theorem bind_if {α β : Type} (b : Bool) (r r' : R α) (q : α → Hs → R β) : R.bind (if b = true then r else r') q = if b = true then r.bind q else r'.bind q := by cases b <;> rfl
theorem lc2_t {sg : L2.St} {H : Hp} {Q : VK} (hix : ∀ j ∈ ix, j ∈ own.map (·.2)) (hix1 : ∀ j ∈ ix1, j ∈ vs1) (w : tE X.K X.mg W (lc2D fi g ft fi1 vs1 g1 ft1 fe (own.map (·.2))) sg H Q) :
    L2.tLc2 (tI X.K X.mg W fi) (tG X.K X.mg g ix) (tT X.K X.mg W0 ft) (tI X.K X.mg W0 fi1) (tG X.K X.mg g1 ix1) (tT X.K X.mg W0 ft1) (tE X.K X.mg W0 fe) (own.map (·.2)) vs1 sg H Q := by
  obtain ⟨n, rho, s, h, hr, l, p⟩ := w
  refine ⟨n, rho, s, h, hr, l, Post.bind p fun st h1 J rho1 H1 n1 hr1 o1 p1 D hD => ?_⟩
  obtain ⟨d1, st1, hr2, n2⟩ := side_new hr1 (u := .lst []) hD
  have lw := (l.mono hr n1).wipe (own.map (·.2))
  generalize hvs : own.map (·.2) = vs at *
  generalize hsw : wipeA s vs = sw at *
  refine ⟨fun i m H => ∃ rho' h' acc us, Nx rho1 H1 rho' H ∧ Stay rho1 H1 rho' H ∧ HR X.K X.mg rho' H h' ∧ D ∉ rho' ∧ H D = some (.lst us) ∧ RVs X.K X.mg rho' H acc us ∧ PostV X.K X.mg rho1 H1 (fun c d H' => W c d sg H') Q ((lc2L st g ft fi1 vs1 g1 ft1 fe n m i acc sw h').bind newL),
    ⟨n, rho1, h1, [], [], n2, st1, hr2, d1, L2.upd_same, .nil, p1⟩, ?_⟩
  clear p1
  rintro i m H ⟨rho2, h2, acc, us, n2, s2, hr2, d2, e2, r2, p2⟩
  cases m with
  | zero => exact p2.elim
  | succ q =>
    rw [lc2L] at p2
    obtain ⟨oa, ob⟩ := o1 rho2 H h2 i s2 hr2
    cases z : st i h2 with
    | none => rw [z] at p2; exact p2.elim
    | some y => cases y with
      | none =>
        rw [z] at p2
        exact .inl ⟨ob z, new_fin hD n2 hr2 d2 e2 r2 p2⟩
      | some x =>
        rw [z] at p2
        dsimp only at p2
        obtain ⟨go, yl⟩ := oa x z
        refine .inr ⟨go, fun H => ∃ rho' h' acc us, Nx rho1 H1 rho' H ∧ Stay rho1 H1 rho' H ∧ HR X.K X.mg rho' H h' ∧ D ∉ rho' ∧ H D = some (.lst us) ∧ RVs X.K X.mg rho' H acc us ∧ PostV X.K X.mg rho1 H1 (fun c d H' => W c d sg H') Q ((lc2L st g ft fi1 vs1 g1 ft1 fe n q (i + 1) acc sw h').bind newL), fun H2 z => ⟨q, Nat.lt_succ_self q, z⟩, fun v H3 y => ?_⟩
        obtain ⟨n3, hr3, rv⟩ := yl v H3 y
        cases q2 : g x sw with
        | none => rw [q2] at p2; exact p2.elim
        | some s3 =>
          rw [q2] at p2
          dsimp only at p2
          have st3 := s2.trans (n3.stay hr2)
          refine ⟨rho2, sw, h2, x, hr3, lw.stay st3, rv, s3, q2, fun sg4 l4 z4 k4 => ⟨wipe_eq z4 k4 hix, ?_⟩⟩
          have e3 : H3 D = some (.lst us) := n3.keep _ _ e2 d2 (by intro _ z; cases z)
          rw [bind_bind] at p2
          refine ⟨n, rho2, s3, h2, hr3, l4, calm_in p2 fun b h5 b' rho5 H5 n5 hr5 r5 p5 => ?_⟩
          subst r5
          have d5 : D ∉ rho5 := n5.out e3 d2
          have e5 : H5 D = some (.lst us) := n5.keep _ _ e3 d2 (by intro _ z; cases z)
          have r5 := (r2.mono hr2 n3).mono hr3 n5
          have n15 := n2.trans hr2 (n3.trans hr3 n5)
          have st5 := st3.trans (n5.stay hr3)
          rw [bind_if] at p5
          cases b with
          | false => exact ⟨rho5, h5, acc, us, n15, st5, hr5, d5, e5, r5, p5⟩
          | true =>
            rw [if_pos rfl] at p5 ⊢
            rw [bind_bind] at p5
            refine ⟨n, rho5, s3, h5, hr5, l4.mono hr3 n5, calm_in p5 fun s7 h7 J7 rho7 H7 n7 hr7 o7 p7 => ?_⟩
            rw [bind_bind] at p7
            have d7 : D ∉ rho7 := n7.out e5 d5
            have e7 : H7 D = some (.lst us) := n7.keep _ _ e5 d5 (by intro _ z; cases z)
            have r7 := r5.mono hr5 n7
            have n17 := n15.trans hr5 n7
            have st7 := st5.trans (n7.stay hr5)
            exact lc_run o7 hD (((l4.mono hr3 n5).mono hr5 n7).wipe vs1) hix1 n17 Stay.refl hr7 d7 e7 r7 n p7 fun acc' h' us' rho' H' n' hr' d' e' r' s' p' => ⟨rho', h', acc', us', n', st7.trans s', hr', d', e', r', p'⟩
theorem d_lc2 (hc : X.calm = true) (hN : X.N.Nodup) (hi : PId X W tg iter fi) (ok : L2.BlkOk X.N X.env.scope scope own) (hv : ∀ i ∈ vs1, i ∈ own.map (·.2))
    (hg : ∀ (s : Shared) (H : Hp) (C : Addr) (cl : List (Str × Addr)) (fp : List Addr), PGd (X.blk s H scope (compEnvC scope cl C X.env) fp) tg g ix) (hix : ∀ j ∈ ix, j ∈ own.map (·.2))
    (ht : ∀ (s : Shared) (H : Hp) (C : Addr) (cl : List (Str × Addr)) (fp : List Addr), PTsd (X.blk s H scope (compEnvC scope cl C X.env) fp) W0 ifs ft)
    (hi1 : ∀ (s : Shared) (H : Hp) (C : Addr) (cl : List (Str × Addr)) (fp : List Addr), PId (X.blk s H scope (compEnvC scope cl C X.env) fp) W0 tg1 iter1 fi1)
    (hg1 : ∀ (s : Shared) (H : Hp) (C : Addr) (cl : List (Str × Addr)) (fp : List Addr), PGd (X.blk s H scope (compEnvC scope cl C X.env) fp) tg1 g1 ix1) (hix1 : ∀ j ∈ ix1, j ∈ vs1)
    (ht1 : ∀ (s : Shared) (H : Hp) (C : Addr) (cl : List (Str × Addr)) (fp : List Addr), PTsd (X.blk s H scope (compEnvC scope cl C X.env) fp) W0 ifs1 ft1)
    (he : ∀ (s : Shared) (H : Hp) (C : Addr) (cl : List (Str × Addr)) (fp : List Addr), PEd (X.blk s H scope (compEnvC scope cl C X.env) fp) W0 elt fe) (hs : ∀ x, foldedSetIterable iter X.env x = pure x := by intro _; rfl) (hs1 : ∀ env x, foldedSetIterable iter1 env x = pure x := by intro _ _; rfl) :
    PEd X W (.ListComp elt [⟨tg, iter, ifs, 0⟩, ⟨tg1, iter1, ifs1, 0⟩] scope pos) (lc2D fi g ft fi1 vs1 g1 ft1 fe (own.map (·.2))) :=
  pe_weak (L2.pe_lc2 (te := tE X.K X.mg W0 fe) (g := tG X.K X.mg g ix) (tt := tT X.K X.mg W0 ft) (wi1 := tI X.K X.mg W0 fi1) (g1 := tG X.K X.mg g1 ix1) (tt1 := tT X.K X.mg W0 ft1) hc hN hi ok hv hg ht hi1 hg1 ht1 he hs hs1) fun sg H Q w => lc2_t hix hix1 w
theorem s_setLc2 {i : Nat} {y : Str} {py spos : Pos} (hc : X.calm = true) (hN : X.N.Nodup) (hy : X.N[i]? = some y) (hyl : X.env.scope.names.lookup y = some .local)
    (hsw : swapsWith (.ListComp elt [⟨tg, iter, ifs, 0⟩, ⟨tg1, iter1, ifs1, 0⟩] scope pos) (some (.Name y py)) spos.line X.env = pure true) (hi : PId X W tg iter fi) (ok : L2.BlkOk X.N X.env.scope scope own) (hv : ∀ i ∈ vs1, i ∈ own.map (·.2))
    (hg : ∀ (s : Shared) (H : Hp) (C : Addr) (cl : List (Str × Addr)) (fp : List Addr), PGd (X.blk s H scope (compEnvC scope cl C X.env) fp) tg g ix) (hix : ∀ j ∈ ix, j ∈ own.map (·.2))
    (ht : ∀ (s : Shared) (H : Hp) (C : Addr) (cl : List (Str × Addr)) (fp : List Addr), PTsd (X.blk s H scope (compEnvC scope cl C X.env) fp) W0 ifs ft)
    (hi1 : ∀ (s : Shared) (H : Hp) (C : Addr) (cl : List (Str × Addr)) (fp : List Addr), PId (X.blk s H scope (compEnvC scope cl C X.env) fp) W0 tg1 iter1 fi1)
    (hg1 : ∀ (s : Shared) (H : Hp) (C : Addr) (cl : List (Str × Addr)) (fp : List Addr), PGd (X.blk s H scope (compEnvC scope cl C X.env) fp) tg1 g1 ix1) (hix1 : ∀ j ∈ ix1, j ∈ vs1)
    (ht1 : ∀ (s : Shared) (H : Hp) (C : Addr) (cl : List (Str × Addr)) (fp : List Addr), PTsd (X.blk s H scope (compEnvC scope cl C X.env) fp) W0 ifs1 ft1)
    (he : ∀ (s : Shared) (H : Hp) (C : Addr) (cl : List (Str × Addr)) (fp : List Addr), PEd (X.blk s H scope (compEnvC scope cl C X.env) fp) W0 elt fe) (hs : ∀ x, foldedSetIterable iter X.env x = pure x := by intro _; rfl) (hs1 : ∀ env x, foldedSetIterable iter1 env x = pure x := by intro _ _; rfl) :
    PSd X W (.Assign [.Name y py] (.ListComp elt [⟨tg, iter, ifs, 0⟩, ⟨tg1, iter1, ifs1, 0⟩] scope pos) spos) (setD i (lc2D fi g ft fi1 vs1 g1 ft1 fe (own.map (·.2)))) := by
  refine ps_weak (L2.ps_setLc2 (te := tE X.K X.mg W0 fe) (g := tG X.K X.mg g ix) (tt := tT X.K X.mg W0 ft) (wi1 := tI X.K X.mg W0 fi1) (g1 := tG X.K X.mg g1 ix1) (tt1 := tT X.K X.mg W0 ft1) hc hN hy hyl hsw hi ok hv hg ht hi1 hg1 ht1 he hs hs1) fun D sg H w => ?_
  obtain ⟨n, rho, s, h, hr, l, p⟩ := w
  refine lc2_t hix hix1 ⟨n, rho, s, h, hr, l, PostS.then hr l p fun a h1 v rho1 H1 n1 hr1 r1 p1 => ?_⟩
  exact p1 _ rho1 H1 Nx.refl hr1 ((l.mono hr n1).set r1 i)
/-! ### dicts -/
def newK (h : Hs) : R A := .ok (.ref h.length) (h ++ [.dK []])
def dnewKD : DE := fun _ _ h => newK h
def dnewTD : DE := fun _ _ h => .ok (.ref h.length) (h ++ [.dT []])
theorem new_get {K : PySem.W.Frag} {mg : Str → Option Value} {rho : List Addr} {H : Hp} {h : Hs} (hr : HR K mg rho H h) {p : Addr} : (rho ++ [p])[h.length]? = some p := by
  rw [← hr.len, List.getElem?_append_right (Nat.le_refl _), Nat.sub_self]; rfl
theorem d_dnewK : PEd X W (.Dict [] [] pos) dnewKD := by
  refine pe_weak L2.pe_dnewK fun sg H Q w => ?_
  obtain ⟨n, rho, s, h, hr, l, p⟩ := w
  intro q hq
  obtain ⟨nx, hr2⟩ := hr.new (o := .dK []) (u := .dK []) hq (.dK .nil)
  exact p (.ref q) _ _ nx hr2 (.ref (new_get hr))
theorem d_dnewT : PEd X W (.Dict [] [] pos) dnewTD := by
  refine pe_weak L2.pe_dnewT fun sg H Q w => ?_
  obtain ⟨n, rho, s, h, hr, l, p⟩ := w
  intro q hq
  obtain ⟨nx, hr2⟩ := hr.new (o := .dT []) (u := .dT []) hq (.dT .nil)
  exact p (.ref q) _ _ nx hr2 (.ref (new_get hr))
def dcL (st : Step) (g : DG) (t : DT) (ek ev : DE) (n : Nat) : Nat → Nat → List (Key × A) → Sl → Hs → R (List (Key × A))
  | 0, _, _, _, _ => .no
  | k + 1, i, acc, s, h => match st i h with
    | none => .no
    | some none => .ok acc h
    | some (some x) => match g x s with
      | none => .no
      | some s1 => (t n s1 h).calm.bind fun b h1 => if b = true then (ek n s1 h1).calm.bind fun a h2 => (ev n s1 h2).calm.bind fun c h3 => match keyA a with
          | some y => if acc.length < sizeLine then dcL st g t ek ev n k (i + 1) (putA acc y c) s h3 else .no
          | none => .no
        else dcL st g t ek ev n k (i + 1) acc s h1
def dcD (it : DI) (g : DG) (t : DT) (ek ev : DE) (vs : List Nat) : DE := fun n s h => (it n s h).bind fun st h1 => (dcL st g t ek ev n n 0 [] (wipeA s vs) h1).bind fun kvs h2 => .ok (.ref h2.length) (h2 ++ [.dK kvs])
theorem RKV.mono' {K : PySem.W.Frag} {mg : Str → Option Value} {k : Type} {rho rho' : List Addr} {H H' : Hp} {h : Hs} (hr : HR K mg rho H h) (n : Nx rho H rho' H') {as : List (k × A)} {vs : List (k × L2.V)} (r : RKV K mg rho H as vs) : RKV K mg rho' H' as vs := r.mono hr n
theorem dc_t {sg : L2.St} {H : Hp} {Q : VK} (hix : ∀ j ∈ ix, j ∈ own.map (·.2)) (w : tE X.K X.mg W (dcD fi g ft fk fv (own.map (·.2))) sg H Q) :
    L2.tDc (tI X.K X.mg W fi) (tG X.K X.mg g ix) (tT X.K X.mg W0 ft) (tE X.K X.mg W0 fk) (tE X.K X.mg W0 fv) (own.map (·.2)) sg H Q := by
  obtain ⟨n, rho, s, h, hr, l, p⟩ := w
  refine ⟨n, rho, s, h, hr, l, Post.bind p fun st h1 J rho1 H1 n1 hr1 o1 p1 D hD => ?_⟩
  obtain ⟨d1, st1, hr2, n2⟩ := side_new hr1 (u := .dK []) hD
  have lw := (l.mono hr n1).wipe (own.map (·.2))
  generalize hvs : own.map (·.2) = vs at *
  generalize hsw : wipeA s vs = sw at *
  refine ⟨fun i m H => ∃ rho' h' acc us, Nx rho1 H1 rho' H ∧ Stay rho1 H1 rho' H ∧ HR X.K X.mg rho' H h' ∧ D ∉ rho' ∧ H D = some (.dK us) ∧ RKV X.K X.mg rho' H acc us ∧ PostV X.K X.mg rho1 H1 (fun c d H' => W c d sg H') Q ((dcL st g ft fk fv n m i acc sw h').bind fun kvs h2 => .ok (.ref h2.length) (h2 ++ [.dK kvs])),
    ⟨n, rho1, h1, [], [], n2, st1, hr2, d1, L2.upd_same, .nil, p1⟩, ?_⟩
  clear p1
  rintro i m H ⟨rho2, h2, acc, us, n2, s2, hr2, d2, e2, r2, p2⟩
  cases m with
  | zero => exact p2.elim
  | succ q =>
    rw [dcL] at p2
    obtain ⟨oa, ob⟩ := o1 rho2 H h2 i s2 hr2
    cases z : st i h2 with
    | none => rw [z] at p2; exact p2.elim
    | some y => cases y with
      | none =>
        rw [z] at p2
        refine .inl ⟨ob z, ?_⟩
        exact (show PostV X.K X.mg rho1 H1 (fun c d H' => W c d sg H') Q (.ok (.ref h2.length) (h2 ++ [.dK acc])) from p2) (.ref D) (rho2 ++ [D]) H (adopt_nx n2 hD) (side_adopt hr2 d2 e2 trivial (.dK r2)) (.ref (new_get hr2))
      | some x =>
        rw [z] at p2
        dsimp only at p2
        obtain ⟨go, yl⟩ := oa x z
        refine .inr ⟨go, fun H => ∃ rho' h' acc us, Nx rho1 H1 rho' H ∧ Stay rho1 H1 rho' H ∧ HR X.K X.mg rho' H h' ∧ D ∉ rho' ∧ H D = some (.dK us) ∧ RKV X.K X.mg rho' H acc us ∧ PostV X.K X.mg rho1 H1 (fun c d H' => W c d sg H') Q ((dcL st g ft fk fv n q (i + 1) acc sw h').bind fun kvs h2 => .ok (.ref h2.length) (h2 ++ [.dK kvs])), fun H2 z => ⟨q, Nat.lt_succ_self q, z⟩, fun v H3 y => ?_⟩
        obtain ⟨n3, hr3, rv⟩ := yl v H3 y
        cases q2 : g x sw with
        | none => rw [q2] at p2; exact p2.elim
        | some s3 =>
          rw [q2] at p2
          dsimp only at p2
          have st3 := s2.trans (n3.stay hr2)
          refine ⟨rho2, sw, h2, x, hr3, lw.stay st3, rv, s3, q2, fun sg4 l4 z4 k4 => ⟨wipe_eq z4 k4 hix, ?_⟩⟩
          have e3 : H3 D = some (.dK us) := n3.keep _ _ e2 d2 (by intro _ z; cases z)
          rw [bind_bind] at p2
          refine ⟨n, rho2, s3, h2, hr3, l4, calm_in p2 fun b h5 b' rho5 H5 n5 hr5 r5 p5 => ?_⟩
          subst r5
          have d5 : D ∉ rho5 := n5.out e3 d2
          have e5 : H5 D = some (.dK us) := n5.keep _ _ e3 d2 (by intro _ z; cases z)
          have r5 := (r2.mono hr2 n3).mono hr3 n5
          have n15 := n2.trans hr2 (n3.trans hr3 n5)
          have st5 := st3.trans (n5.stay hr3)
          rw [bind_if] at p5
          cases b with
          | false => exact ⟨rho5, h5, acc, us, n15, st5, hr5, d5, e5, r5, p5⟩
          | true =>
            rw [if_pos rfl] at p5 ⊢
            rw [bind_bind] at p5
            refine ⟨n, rho5, s3, h5, hr5, l4.mono hr3 n5, calm_in p5 fun a h7 w rho7 H7 n7 hr7 r7 p7 => ?_⟩
            rw [bind_bind] at p7
            refine ⟨n, rho7, s3, h7, hr7, (l4.mono hr3 n5).mono hr5 n7, calm_in p7 fun c h9 u rho9 H9 n9 hr9 r9 p9 => ?_⟩
            have n79 := n7.trans hr7 n9
            have d9 : D ∉ rho9 := n79.out e5 d5
            have e9 : H9 D = some (.dK us) := n79.keep _ _ e5 d5 (by intro _ z; cases z)
            have rr := r5.mono hr5 n79
            split at p9
            · rename_i y hk
              split at p9
              · rename_i hz
                refine ⟨us, y, keyA_get hk r7, e9, by rw [← rr.length]; exact hz, rho9, h9, putA acc y c, L2.putK us y u, side_nx (n15.trans hr5 n79) hD e9 trivial, (st5.trans (n79.stay hr5)).trans (side_stay e9 trivial), side_hr hr9 d9 e9 trivial, d9, L2.upd_same, ?_, p9⟩
                exact (rr.stay (side_stay e9 trivial)).put y (r9.stay (side_stay e9 trivial))
              · exact p9.elim
            · exact p9.elim
theorem d_dc (hc : X.calm = true) (hN : X.N.Nodup) (hi : PId X W tg iter fi) (ok : L2.BlkOk X.N X.env.scope scope own)
    (hg : ∀ (s : Shared) (H : Hp) (C : Addr) (cl : List (Str × Addr)) (fp : List Addr), PGd (X.blk s H scope (compEnvC scope cl C X.env) fp) tg g ix) (hix : ∀ j ∈ ix, j ∈ own.map (·.2))
    (ht : ∀ (s : Shared) (H : Hp) (C : Addr) (cl : List (Str × Addr)) (fp : List Addr), PTsd (X.blk s H scope (compEnvC scope cl C X.env) fp) W0 ifs ft)
    (hk : ∀ (s : Shared) (H : Hp) (C : Addr) (cl : List (Str × Addr)) (fp : List Addr), PEd (X.blk s H scope (compEnvC scope cl C X.env) fp) W0 a fk)
    (he : ∀ (s : Shared) (H : Hp) (C : Addr) (cl : List (Str × Addr)) (fp : List Addr), PEd (X.blk s H scope (compEnvC scope cl C X.env) fp) W0 b fv) (hs : ∀ x, foldedSetIterable iter X.env x = pure x := by intro _; rfl) :
    PEd X W (.DictComp a b [⟨tg, iter, ifs, 0⟩] scope pos) (dcD fi g ft fk fv (own.map (·.2))) :=
  pe_weak (L2.pe_dc (tk := tE X.K X.mg W0 fk) (tv := tE X.K X.mg W0 fv) (g := tG X.K X.mg g ix) (tt := tT X.K X.mg W0 ft) hc hN hi ok hg ht hk he hs) fun sg H Q w => dc_t hix w
end
end Dn

set_option maxHeartbeats 4000000
/-! Dn13: xs[i] += e on a list of ints; max with a default. -/
namespace Dn
open PySem PyProof.Rows
open L2 (PE PT PA PS PSs PG PGs PI Cx WX Takes HO Hp VK)
/-! ### xs[i] += e -/
def rGetL (K : PySem.W.Frag) : L2.V → L2.V → Hp → VK → Prop := fun o i H Q => ∃ a vs k v, o = .ref a ∧ i = .int k ∧ L2.SqL K H a vs ∧ 0 ≤ k ∧ vs[k.toNat]? = some v ∧ Q v H
theorem get_lst {X : Cx} : L2.PGet X (rGetL X.K) := by
  intro pins s σ H o i ov iv Q I ro ri h
  obtain ⟨a, vs, k, v, rfl, rfl, hs, h0, hv, q⟩ := h
  cases ro
  obtain ⟨t, rfl⟩ := ri
  obtain ⟨its, r, pl, hz⟩ := I.list hs
  obtain ⟨w, ew, rw'⟩ := r.get hv
  have hl := r.length
  have hn := L2.line63
  have hb := (List.getElem?_eq_some_iff.mp hv).1
  exact wpAny_getItem_list pl.isList h0 (by omega) (by simpa using ew) ⟨v, H, I, rw', q⟩
def augItD (fo fi fe : DE) : DS := fun n s h => (fo n s h).then s fun a h1 => (fi n s h1).then s fun b h2 => match a, b with
  | .ref m, .int k => match h2[m]? with
    | some (.lst xs) => if 0 ≤ k ∧ k < 2 ^ 63 then match xs[k.toNat]? with
        | some (.int x) => (fe n s h2).then s fun c h3 => match c, h3[m]? with
          | .int y, some (.lst ys) => if ys.length = xs.length then .nx s (h3.set m (.lst (ys.set k.toNat (.int (x + y))))) else .no
          | _, _ => .no
        | _ => .no
      else .no
    | _ => .no
  | _, _ => .no
section
variable {X : Cx} {W : WX} {e o i : Expr} {pos tpos p : Pos} {fo fi fe : DE}
theorem s_augIt (ho : PEd X W o fo) (hi : PEd X W i fi) (he : PEd X W e fe)
    (ha : ∀ ov iv new, augStore i ov iv new = (do holding [new, ov, iv] (setItem ov iv new); release [new, ov, iv] []; pure .next) := by intros; rfl) :
    PSd X W (.AugAssign (.Subscript o i tpos) .Add e pos) (augItD fo fi fe) := by
  refine ps_weak (L2.ps_augS ho hi get_lst he L2.ip_add L2.set_list ha) fun D sg H w => ?_
  obtain ⟨n, rho, s, h, hr, l, p⟩ := w
  refine ⟨n, rho, s, h, hr, l, PostS.then hr l p fun a h1 v rho1 H1 n1 hr1 r1 p1 => ?_⟩
  refine ⟨n, rho1, s, h1, hr1, l.mono hr n1, PostS.then hr1 (l.mono hr n1) p1 fun b h2 u rho2 H2 n2 hr2 r2 p2 => ?_⟩
  have ra := r1.mono hr1 n2
  have l2 := (l.mono hr n1).mono hr1 n2
  split at p2
  · rename_i m k
    cases r2
    cases ra with
    | ref hp =>
      rename_i ad
      split at p2
      · rename_i xs hx
        split at p2
        · rename_i hk
          split at p2
          · rename_i x hxk
            obtain ⟨vs, e1, e2⟩ := hr2.lst hp hx
            obtain ⟨v, ev, rv⟩ := e2.get hxk
            cases rv
            refine ⟨ad, vs, k, _, rfl, rfl, .of e1, hk.1, ev, n, rho2, s, h2, hr2, l2, PostS.then hr2 l2 p2 fun c h3 z rho3 H3 n3 hr3 r3 p3 => ?_⟩
            split at p3
            · rename_i y ys hy
              cases r3
              split at p3
              · rename_i hlen
                obtain ⟨us, f1, f2⟩ := hr3.lst (n3.pre _ _ hp) hy
                obtain ⟨nx, hr4⟩ := hr3.set (o := .lst (ys.set k.toNat (.int (x + y)))) (u := .lst (us.set k.toNat (.int (x + y)))) (n3.pre _ _ hp) (.lst (RVs.set (.int _) _ f2))
                refine ⟨x, y, rfl, rfl, ad, us, k, k.toNat, rfl, rfl, f1, ?_, p3 sg rho3 _ nx hr4 ((l2.mono hr2 n3).mono hr3 nx)⟩
                have hb := (List.getElem?_eq_some_iff.mp hxk).1
                have hb2 : k < us.length := by rw [← f2.length]; omega
                unfold L2.ixN
                rw [if_pos hk.1, if_pos hb2]
              · exact p3.elim
            · exact p3.elim
          · exact p2.elim
        · exact p2.elim
      · exact p2.elim
  · exact p2.elim
/-! ### max(xs, default=d) -/
def rMaxK (K : PySem.W.Frag) : List L2.V → List L2.V → Hp → VK → Prop := fun xs zs H Q => ∃ a ns d, xs = [.ref a] ∧ zs = [.int d] ∧ L2.SqL K H a (ns.map L2.V.int) ∧ Q (.int (match ns with | [] => d | x :: r => r.foldl max x)) H
theorem call_maxK (hc : X.calm = true) (hu : X.A.units + 2 < cLine) : L2.CallRK X (.builtin "max") ["default"] (rMaxK X.K) := by
  intro pins s σ H xs zs us ws Q I rx rz h
  obtain ⟨a, ns, d, rfl, rfl, hs, q⟩ := h
  obtain ⟨its, rv, hl, hz⟩ := I.list hs
  rw [L2.Vals.ref1 rx]
  cases rz with
  | cons r1 r2 =>
    cases r2
    obtain ⟨td, rfl⟩ := r1
    have dp : ∀ ns : List Int, L2.DpAll X.K H (ns.map L2.V.int) (ns.map PyData.int) := fun ns => by
      induction ns with
      | nil => exact .nil
      | cons n ns ih => exact .cons (.int n) ih
    obtain ⟨as, ra⟩ := L2.Dp.readsAll I _ _ _ (dp ns) rv
    have al : PySem.W.AlikeAll (ns.map PyData.int) := ⟨fun x hx y hy => by
      obtain ⟨i, _, rfl⟩ := List.mem_map.mp hx
      obtain ⟨j, _, rfl⟩ := List.mem_map.mp hy
      rfl, fun x hx e => by
      obtain ⟨i, _, rfl⟩ := List.mem_map.mp hx
      cases e⟩
    have dz : ∀ ns : List Int, PyData.depthAll (ns.map PyData.int) = 0 := fun ns => by
      induction ns with
      | nil => rfl
      | cons n ns ih => simp [PyData.depthAll, PyData.depth, ih]
    have room : X.A.units + 1 + PyData.depthAll (ns.map PyData.int) < cLine := by rw [dz]; omega
    show wpAny _ _ (call (.builtin "max") [.ref a] [(Str.ofString "default", .int d td)]) _ _ _
    refine PySem.W.max_list_default (I.ok.hd hc) hl.isList (show ReadsAll s.heap its.toArray.toList _ _ by simpa using ra) al room (fun e h' tk hk => ?_) (fun y ys i v h' tk bs e hv r hk => ?_)
    · cases ns with
      | nil => exact ⟨.int d, H, I.kept hk, ⟨_, rfl⟩, q⟩
      | cons _ _ => cases e
    · cases ns with
      | nil => cases e
      | cons n ns =>
        cases e
        rw [PySem.W.maxD_ints] at r
        cases r
        exact ⟨.int _, H, I.kept hk, ⟨_, rfl⟩, q⟩
def maxKD (ft : DA) (d : Int) : DE := fun n s h => (ft n s h).bind fun as h1 => match as with
  | [a] => match (lsOf h1 a).bind intsOf with
    | some [] => .ok (.int d) h1
    | some (x :: r) => .ok (.int (r.foldl max x)) h1
    | none => .no
  | _ => .no
theorem d_maxK {e : Expr} {ft : DA} {d : Int} {p pos kpos cp : Pos} {j} (hc : X.calm = true) (hu : X.A.units + 2 < cLine) (hg : L2.Gl X "max") (hm : X.mg "max" = none) (ha : PAd X W [e] ft)
    (he : backTo pos (starEach [e] X.env) = (false, eval e X.env) :: backTo pos (starEach [] X.env) := by rfl) (hpl : (backTo pos (starEach [e] X.env)).any (·.1) = false := by rfl)
    (hall : (backToKw pos (keywordEach [⟨some "default", .Constant (.int d) j cp, kpos⟩] X.env)).all (·.1.isSome) = true := by rfl) (hnone : (backToKw pos (keywordEach [⟨some "default", .Constant (.int d) j cp, kpos⟩] X.env)).any (·.1.isNone) = false := by rfl) (hks : (backToKw pos (keywordEach [⟨some "default", .Constant (.int d) j cp, kpos⟩] X.env)).filterMap (·.1) = [Str.ofString "default"] := by rfl) :
    PEd X W (.Call (.Name "max" p) [e] [⟨some "default", .Constant (.int d) j cp, kpos⟩] pos) (maxKD ft d) := by
  refine pe_weak (L2.pe_callBK (call_maxK hc hu) hg hm boot_max ha (L2.pk_cons L2.pe_int L2.pk_nil) (by decide) (by decide) he hpl hall hnone hks) fun sg H Q w => ?_
  obtain ⟨n, rho, s, h, hr, l, p⟩ := w
  refine ⟨n, rho, s, h, hr, l, Post.bind p fun as h1 vs rho1 H1 n1 hr1 r1 p1 => ?_⟩
  split at p1
  · obtain ⟨v, rfl, rv⟩ := r1.one
    split at p1
    · rename_i hq
      obtain ⟨q, rfl, hs⟩ := ints_get hr1 hq rv
      exact ⟨q, [], d, rfl, rfl, hs, p1 _ rho1 H1 Nx.refl hr1 (.int _)⟩
    · rename_i x r hq
      obtain ⟨q, rfl, hs⟩ := ints_get hr1 hq rv
      exact ⟨q, x :: r, d, rfl, rfl, hs, p1 _ rho1 H1 Nx.refl hr1 (.int _)⟩
    · exact p1.elim
  · exact p1.elim
end
end Dn

set_option maxHeartbeats 4000000
/-! Dn14: what a caller wants of a def; +=. -/
namespace Dn
open PySem PyProof.Rows
open L2 (PE PT PA PS PSs PG PGs PI Cx WX Takes HO Hp VK)
def Has (P : Program) (w : World) (K : PySem.W.Frag) (mg : Str → Option Value) (base : Heap) (k : Nat) (x : Str) (ps : List Str) (G : DF) : Prop :=
  ∃ (g : Addr) (fd : FuncData), FnD P w K mg base k g fd ps G ∧ mg x = some (.ref g) ∧ PySem.W.keepIn K (.ref g) = true ∧ L2.Binds K fd ps []
def addI (i j : Int) : Option Int := some (i + j)
theorem rf_ip {K : PySem.W.Frag} {mg : Str → Option Value} : Rf2 K mg (L2.ipI fun i j => i + j) (intA addI) := by
  intro rho H h a b x y W Q hr ra rb p
  unfold intA at p
  split at p
  · cases ra; cases rb
    exact ⟨_, _, rfl, rfl, by
      revert p
      unfold addI
      intro p
      exact p.here hr (.int _)⟩
  · exact p.elim
theorem takes_cx {P : Program} {w : World} {K : PySem.W.Frag} {mg : Str → Option Value} {base : Heap} {N : List Str} {qual : Str} {sc : Scope} {f : Addr} {cdv : Value} {A : Around} {outer : List Env} {s : Shared} {H : Hp} {E : L2.XK} :
    Takes (L2.cxOf (L2.CX P w) P w K mg base N qual sc f cdv A outer s H E) (fun cls d _ H => E cls d H) := L2.takes_of rfl rfl rfl rfl
theorem passes_cx {P : Program} {w : World} {K : PySem.W.Frag} {mg : Str → Option Value} {base : Heap} {N : List Str} {qual : Str} {sc : Scope} {f : Addr} {cdv : Value} {A : Around} {outer : List Env} {s : Shared} {H : Hp} {E : L2.XK} :
    PassesOwn (model (L2.cxOf (L2.CX P w) P w K mg base N qual sc f cdv A outer s H E).prog (L2.cxOf (L2.CX P w) P w K mg base N qual sc f cdv A outer s H E).w) (L2.cxOf (L2.CX P w) P w K mg base N qual sc f cdv A outer s H E).A
      (L2.cxOf (L2.CX P w) P w K mg base N qual sc f cdv A outer s H E).env (L2.cxOf (L2.CX P w) P w K mg base N qual sc f cdv A outer s H E).xe := L2.passes_of rfl
end Dn

set_option maxHeartbeats 4000000
/-! Dn15: the law's own promise. -/
namespace Dn
open PySem PyProof.Rows
open L2 (PE PT PA PS PSs PG PGs PI Cx WX Takes HO Hp VK)
def spLaw (K : PySem.W.Frag) (m : Nat) : L2.Sp := fun vs H Q _ => ∃ (a : Addr) (ns : List Int), vs = [.ref a] ∧ L2.SqL K H a (ns.map L2.V.int) ∧ ns.length ≤ m ∧ L2.Only H ∧ ∀ H', Q (.bl true) H'
theorem law_imp {K : PySem.W.Frag} {mg : Str → Option Value} {m : Nat} {G : DF} (T : ∀ ns : List Int, ns.length ≤ m → ∃ n h', G n [.rol (ns.map A.int)] [] = .ok (.bl true) h') : ∀ vs H Q E, spLaw K m vs H Q E → spD K mg 1 G vs H Q E := by
  rintro vs H Q E ⟨a, ns, rfl, hs, hl, ho, q⟩
  obtain ⟨n, h', e⟩ := T ns hl
  refine ⟨rfl, n, [], [], [.rol (ns.map A.int)], ⟨rfl, List.nodup_nil, fun i a o e1 e2 => by simp at e1, fun i P q e => by simp at e⟩, .cons (.rol ?_ (RVs.ints ns)) .nil, ?_⟩
  · rcases hs with (e1 | ⟨ob, e1⟩) | e1
    · rcases ho a with z | ⟨o, xs, z⟩
      · rw [z] at e1; cases e1
      · rw [z] at e1; cases e1
    · exact .inl ⟨ob, e1, by simp⟩
    · exact .inr (.inr e1)
  · rw [e]
    intro b rho' H' _ _ r
    cases r
    exact q H'
theorem cx_end {P : Program} {w : World} {H : Hp} {s : Shared} {e : Value} {s' : Shared} (z : L2.CX P w [] H s (fun _ _ _ => False) e s') : False := by
  obtain ⟨_, _, _, _, _, _, _, _, _, _, _, _, q⟩ := z
  exact q
end Dn

set_option maxHeartbeats 4000000
/-! Dn16: what a denotation leads to: rules to reason with, no program in sight. -/
namespace Dn
open PySem
/-- r ends well, in Q; an exception ends in X -/
def Ev {α : Type} (X : Xn → Hs → Prop) (r : R α) (Q : α → Hs → Prop) : Prop := match r with
  | .ok a h => Q a h
  | .ex x h => X x h
  | .no => False
structure Tl where
  nx : Sl → Hs → Prop
  rt : A → Hs → Prop
  bk : Sl → Hs → Prop
  ct : Sl → Hs → Prop
  ex : Xn → Sl → Hs → Prop
def EvS (r : RS) (T : Tl) : Prop := match r with
  | .nx s h => T.nx s h
  | .rt a h => T.rt a h
  | .bk s h => T.bk s h
  | .ct s h => T.ct s h
  | .ex x s h => T.ex x s h
  | .no => False
def NoX : Xn → Hs → Prop := fun _ _ => False
section
variable {α β : Type} {X : Xn → Hs → Prop} {Q Q' : α → Hs → Prop}
theorem ev_ok {a : α} {h : Hs} : Ev X (.ok a h) Q = Q a h := rfl
theorem ev_ex {x : Xn} {h : Hs} : Ev X (.ex x h : R α) Q = X x h := rfl
theorem ev_no : Ev X (.no : R α) Q = False := rfl
theorem ev_bind {r : R β} {k : β → Hs → R α} : Ev X (r.bind k) Q = Ev X r fun a h => Ev X (k a h) Q := by cases r <;> rfl
theorem ev_if {c : Prop} [Decidable c] {r r' : R α} : Ev X (if c then r else r') Q = if c then Ev X r Q else Ev X r' Q := by split <;> rfl
theorem Ev.mono {r : R α} (h : Ev X r Q) (m : ∀ a h, Q a h → Q' a h) : Ev X r Q' := by
  cases r with
  | ok a h1 => exact m _ _ h
  | ex x h1 => exact h
  | no => exact h
theorem Ev.calm {r : R α} (h : Ev NoX r Q) : Ev X r.calm Q := by
  cases r with
  | ok a h1 => exact h
  | ex x h1 => exact h.elim
  | no => exact h
theorem Ev.any {r : R α} (h : Ev NoX r Q) : Ev X r Q := by
  cases r with
  | ok a h1 => exact h
  | ex x h1 => exact h.elim
  | no => exact h
theorem Ev.get {r : R α} (h : Ev NoX r Q) : ∃ a h', r = .ok a h' ∧ Q a h' := by
  cases r with
  | ok a h1 => exact ⟨a, h1, rfl, h⟩
  | ex x h1 => exact h.elim
  | no => exact h.elim
variable {T : Tl}
theorem es_nx {s h} : EvS (.nx s h) T = T.nx s h := rfl
theorem es_rt {a h} : EvS (.rt a h) T = T.rt a h := rfl
theorem es_bk {s h} : EvS (.bk s h) T = T.bk s h := rfl
theorem es_ct {s h} : EvS (.ct s h) T = T.ct s h := rfl
theorem es_ex {x s h} : EvS (.ex x s h) T = T.ex x s h := rfl
theorem es_no : EvS .no T = False := rfl
theorem es_seq {r : RS} {k : Sl → Hs → RS} : EvS (r.seq k) T = EvS r { T with nx := fun s h => EvS (k s h) T } := by cases r <;> rfl
theorem es_then {r : R β} {s : Sl} {k : β → Hs → RS} : EvS (r.then s k) T = Ev (fun x h => T.ex x s h) r fun a h => EvS (k a h) T := by cases r <;> rfl
theorem es_if {c : Prop} [Decidable c] {r r' : RS} : EvS (if c then r else r') T = if c then EvS r T else EvS r' T := by split <;> rfl
theorem EvS.mono {r : RS} {T' : Tl} (h : EvS r T) (h1 : ∀ s h, T.nx s h → T'.nx s h) (h2 : ∀ a h, T.rt a h → T'.rt a h) (h3 : ∀ s h, T.bk s h → T'.bk s h) (h4 : ∀ s h, T.ct s h → T'.ct s h) (h5 : ∀ x s h, T.ex x s h → T'.ex x s h) : EvS r T' := by
  cases r with
  | nx s h' => exact h1 _ _ h
  | rt a h' => exact h2 _ _ h
  | bk s h' => exact h3 _ _ h
  | ct s h' => exact h4 _ _ h
  | ex x s h' => exact h5 _ _ _ h
  | no => exact h
theorem ev_body {np nn : Nat} {b : DS} {n : Nat} {as : List A} {h : Hs} {Q : A → Hs → Prop} (hl : as.length = np) (w : EvS (b n (as.map some ++ List.replicate (nn - np) none) h) ⟨fun _ h => Q .non h, Q, fun _ _ => False, fun _ _ => False, fun x _ h => X x h⟩) : Ev X (bodyD np nn b n as h) Q := by
  unfold bodyD
  rw [if_pos hl]
  revert w
  cases b n (as.map some ++ List.replicate (nn - np) none) h <;> exact id
theorem ev_call {np : Nat} {G : DF} {f : DA} {n : Nat} {s : Sl} {h : Hs} {Q : A → Hs → Prop} : Ev X (callD np G f n s h) Q = Ev X (f n s h) fun as h1 => as.length = np ∧ Ev X (G n as h1) Q := by
  unfold callD
  rw [ev_bind]
  congr 1
  funext as h1
  rw [ev_if]
  by_cases hz : as.length = np
  · simp [hz]
  · simp [hz, ev_no]
end
/-- two statements, what holds between -/
theorem step_seq {f g : DS} {n : Nat} {s : Sl} {h : Hs} {T : Tl} (N : Sl → Hs → Prop) (h1 : EvS (f n s h) { T with nx := N }) (h2 : ∀ s h, N s h → EvS (g n s h) T) : EvS (seqD f g n s h) T := by
  unfold seqD
  rw [es_seq]
  exact h1.mono (fun s h z => h2 s h z) (fun _ _ z => z) (fun _ _ z => z) (fun _ _ z => z) (fun _ _ _ z => z)
/-! ### loops -/
section
variable {T : Tl} {g : DG} {b : DS} {n : Nat}
theorem for_any {st : Step} {m : Nat} (I : Nat → Sl → Hs → Prop) (step : ∀ j s h, j < m → I j s h → ∃ x s1, st j h = some (some x) ∧ g x s = some s1 ∧ EvS (b n s1 h) { T with nx := I (j + 1), ct := I (j + 1), bk := T.nx })
    (fin : ∀ s h, I m s h → st m h = some none ∧ T.nx s h) : ∀ (d k i : Nat) (s : Sl) (h : Hs), i + d = m → d < k → I i s h → EvS (forL st g b n k i s h) T
  | _, 0, _, _, _, _, hk, _ => absurd hk (Nat.not_lt_zero _)
  | 0, k + 1, i, s, h, e, _, hi => by
    rw [Nat.add_zero] at e
    subst e
    obtain ⟨e1, e2⟩ := fin s h hi
    rw [forL, e1]
    exact e2
  | d + 1, k + 1, i, s, h, e, hk, hi => by
    obtain ⟨x, s1, e1, e2, w⟩ := step i s h (by omega) hi
    rw [forL, e1]
    dsimp only
    rw [e2]
    dsimp only
    revert w
    cases b n s1 h with
    | nx s2 h2 => intro w; exact for_any I step fin d k (i + 1) s2 h2 (by omega) (by omega) w
    | ct s2 h2 => intro w; exact for_any I step fin d k (i + 1) s2 h2 (by omega) (by omega) w
    | bk s2 h2 => exact id
    | rt a h2 => exact id
    | ex x s2 h2 => exact id
    | no => exact id
/-- over a tuple -/
theorem for_x {xs : List A} {k : Nat} {s : Sl} {h : Hs} (hk : xs.length < k) (I : Nat → Sl → Hs → Prop) (h0 : I 0 s h)
    (step : ∀ j s h (hj : j < xs.length), I j s h → ∃ s1, g xs[j] s = some s1 ∧ EvS (b n s1 h) { T with nx := I (j + 1), ct := I (j + 1), bk := T.nx }) (fin : ∀ s h, I xs.length s h → T.nx s h) : EvS (forL (stepX xs) g b n k 0 s h) T :=
  for_any (m := xs.length) I (fun j s h hj hi => let ⟨s1, e1, e2⟩ := step j s h hj hi; ⟨xs[j], s1, by unfold stepX; rw [List.getElem?_eq_getElem hj], e1, e2⟩)
    (fun s h hi => ⟨by unfold stepX; rw [List.getElem?_eq_none (Nat.le_refl _)], fin s h hi⟩) xs.length k 0 s h (Nat.zero_add _) hk h0
/-- over a range -/
theorem for_r {lo : Int} {m k : Nat} {s : Sl} {h : Hs} (hk : m < k) (I : Nat → Sl → Hs → Prop) (h0 : I 0 s h)
    (step : ∀ (j : Nat) s h, j < m → I j s h → ∃ s1, g (.int (lo + (j : Nat))) s = some s1 ∧ EvS (b n s1 h) { T with nx := I (j + 1), ct := I (j + 1), bk := T.nx }) (fin : ∀ s h, I m s h → T.nx s h) : EvS (forL (stepR lo m) g b n k 0 s h) T :=
  for_any (m := m) I (fun j s h hj hi => let ⟨s1, e1, e2⟩ := step j s h hj hi; ⟨_, s1, by unfold stepR; rw [if_pos hj], e1, e2⟩)
    (fun s h hi => ⟨by unfold stepR; rw [if_neg (Nat.lt_irrefl _)], fin s h hi⟩) m k 0 s h (Nat.zero_add _) hk h0
/-- over a list that stays -/
theorem for_l {p : Nat} {xs : List A} {k : Nat} {s : Sl} {h : Hs} (hk : xs.length < k) (I : Nat → Sl → Hs → Prop) (h0 : I 0 s h) (hl : ∀ j s h, I j s h → h[p]? = some (.lst xs))
    (step : ∀ j s h (hj : j < xs.length), I j s h → ∃ s1, g xs[j] s = some s1 ∧ EvS (b n s1 h) { T with nx := I (j + 1), ct := I (j + 1), bk := T.nx }) (fin : ∀ s h, I xs.length s h → T.nx s h) : EvS (forL (stepL p) g b n k 0 s h) T :=
  for_any (m := xs.length) I (fun j s h hj hi => let ⟨s1, e1, e2⟩ := step j s h hj hi; ⟨xs[j], s1, by unfold stepL; rw [hl j s h hi]; dsimp only; rw [List.getElem?_eq_getElem hj], e1, e2⟩)
    (fun s h hi => ⟨by unfold stepL; rw [hl _ s h hi]; dsimp only; rw [List.getElem?_eq_none (Nat.le_refl _)], fin s h hi⟩) xs.length k 0 s h (Nat.zero_add _) hk h0
/-- enumerate over a tuple -/
theorem for_ex {xs : List A} {k : Nat} {s : Sl} {h : Hs} (hk : xs.length < k) (I : Nat → Sl → Hs → Prop) (h0 : I 0 s h)
    (step : ∀ (j : Nat) s h (hj : j < xs.length), I j s h → ∃ s1, g (.tup [.int (j : Nat), xs[j]]) s = some s1 ∧ EvS (b n s1 h) { T with nx := I (j + 1), ct := I (j + 1), bk := T.nx }) (fin : ∀ s h, I xs.length s h → T.nx s h) : EvS (forL (stepE (stepX xs)) g b n k 0 s h) T :=
  for_any (m := xs.length) I (fun j s h hj hi => let ⟨s1, e1, e2⟩ := step j s h hj hi; ⟨_, s1, by unfold stepE stepX; rw [List.getElem?_eq_getElem hj]; rfl, e1, e2⟩)
    (fun s h hi => ⟨by unfold stepE stepX; rw [List.getElem?_eq_none (Nat.le_refl _)]; rfl, fin s h hi⟩) xs.length k 0 s h (Nat.zero_add _) hk h0
/-- while, by a measure -/
theorem while_m {c : DT} (I : Nat → Sl → Hs → Prop) (step : ∀ m s h, I m s h → Ev (fun x h => T.ex x s h) (c n s h) fun t h1 => if t then ∃ m', m' < m ∧ EvS (b n s h1) { T with nx := I m', ct := I m', bk := T.nx } else T.nx s h1) :
    ∀ (k m : Nat) (s : Sl) (h : Hs), m < k → I m s h → EvS (whileL c b n k s h) T
  | 0, _, _, _, hk, _ => absurd hk (Nat.not_lt_zero _)
  | k + 1, m, s, h, hk, hi => by
    rw [whileL, es_then]
    refine (step m s h hi).mono fun t h1 w => ?_
    cases t with
    | false => exact w
    | true =>
      obtain ⟨m', hm, w⟩ := w
      simp only [if_true]
      revert w
      cases b n s h1 with
      | nx s2 h2 => intro w; exact while_m I step k m' s2 h2 (by omega) w
      | ct s2 h2 => intro w; exact while_m I step k m' s2 h2 (by omega) w
      | bk s2 h2 => exact id
      | rt a h2 => exact id
      | ex x s2 h2 => exact id
      | no => exact id
end
/-! ### comprehensions -/
section
variable {X : Xn → Hs → Prop} {g : DG} {t : DT} {e : DE} {n : Nat}
theorem lc_any {st : Step} {m : Nat} {s : Sl} {Q : List A → Hs → Prop} (I : Nat → List A → Hs → Prop)
    (step : ∀ j acc h, j < m → I j acc h → ∃ x s1, st j h = some (some x) ∧ g x s = some s1 ∧ Ev NoX (t n s1 h) fun b h1 => if b then Ev NoX (e n s1 h1) fun a h2 => acc.length < sizeLine ∧ I (j + 1) (acc ++ [a]) h2 else I (j + 1) acc h1)
    (fin : ∀ acc h, I m acc h → st m h = some none ∧ Q acc h) : ∀ (d k i : Nat) (acc : List A) (h : Hs), i + d = m → d < k → I i acc h → Ev X (lcL st g t e n k i acc s h) Q
  | _, 0, _, _, _, _, hk, _ => absurd hk (Nat.not_lt_zero _)
  | 0, k + 1, i, acc, h, e1, _, hi => by
    rw [Nat.add_zero] at e1
    subst e1
    obtain ⟨e1, e2⟩ := fin acc h hi
    rw [lcL, e1]
    exact e2
  | d + 1, k + 1, i, acc, h, e0, hk, hi => by
    obtain ⟨x, s1, e1, e2, w⟩ := step i acc h (by omega) hi
    rw [lcL, e1]
    dsimp only
    rw [e2]
    dsimp only
    rw [ev_bind]
    refine (Ev.calm w).mono fun b h1 w1 => ?_
    cases b with
    | false => simp only [Bool.false_eq_true, if_false] at w1 ⊢; exact lc_any I step fin d k (i + 1) acc h1 (by omega) (by omega) w1
    | true =>
      simp only [if_true] at w1 ⊢
      rw [ev_bind]
      refine (Ev.calm w1).mono fun a h2 w2 => ?_
      rw [if_pos w2.1]
      exact lc_any I step fin d k (i + 1) (acc ++ [a]) h2 (by omega) (by omega) w2.2
end
/-! ### heaps that grow -/
/-- what stood before stands, but at m -/
def Gm (m : Option Nat) (h h' : Hs) : Prop := h.length ≤ h'.length ∧ ∀ i, i < h.length → some i ≠ m → h'[i]? = h[i]?
theorem Gm.refl {m : Option Nat} {h : Hs} : Gm m h h := ⟨Nat.le_refl _, fun _ _ _ => rfl⟩
theorem Gm.trans {m : Option Nat} {h h' h'' : Hs} (a : Gm m h h') (b : Gm m h' h'') : Gm m h h'' := ⟨Nat.le_trans a.1 b.1, fun i hi hm => by rw [b.2 i (Nat.lt_of_lt_of_le hi a.1) hm, a.2 i hi hm]⟩
theorem Gm.weak {m : Option Nat} {h h' : Hs} (a : Gm none h h') : Gm m h h' := ⟨a.1, fun i hi _ => a.2 i hi (by simp)⟩
theorem Gm.get {m : Option Nat} {h h' : Hs} (a : Gm m h h') {i : Nat} {o : AO} (e : h[i]? = some o) (hm : some i ≠ m := by simp) : h'[i]? = some o := by rw [a.2 i (List.getElem?_eq_some_iff.mp e).1 hm]; exact e
theorem Gm.app {m : Option Nat} {h h' : Hs} {o : AO} (a : Gm m h h') : Gm m h (h' ++ [o]) := ⟨by rw [List.length_append]; exact Nat.le_trans a.1 (Nat.le_add_right _ _), fun i hi hm => by rw [List.getElem?_append_left (Nat.lt_of_lt_of_le hi a.1)]; exact a.2 i hi hm⟩
theorem Gm.set {m : Option Nat} {h h' : Hs} {p : Nat} {o : AO} (a : Gm m h h') (hp : h.length ≤ p ∨ some p = m) : Gm m h (h'.set p o) := ⟨by rw [List.length_set]; exact a.1, fun i hi hm => by
  have hne : p ≠ i := fun z => by
    rcases hp with q | q
    · omega
    · exact hm (by rw [← z]; exact q)
  rw [List.getElem?_set_ne hne]; exact a.2 i hi hm⟩
theorem get_app {h : Hs} {o : AO} : (h ++ [o])[h.length]? = some o := by rw [List.getElem?_append_right (Nat.le_refl _), Nat.sub_self]; rfl
theorem get_set {h : Hs} {p : Nat} {o o' : AO} (e : h[p]? = some o') : (h.set p o)[p]? = some o := List.getElem?_set_self (List.getElem?_eq_some_iff.mp e).1
theorem lt_of_get {h : Hs} {p : Nat} {o : AO} (e : h[p]? = some o) : p < h.length := (List.getElem?_eq_some_iff.mp e).1
end Dn

set_option maxHeartbeats 4000000
/-! Dx1: an own exception class whose __init__ hands its one value on to super() and keeps it in a field. -/
namespace Dx
open PySem PySem.W PySem.Calls PyProof.Rows Builtin Builtin.ObjectAttr
def supA (fld : Str) (p1 p2 : Pos) : Arguments := { posonlyargs := [], args := [{ arg := "self", annotation := none, pos := p1 }, { arg := fld, annotation := none, pos := p2 }], vararg := none, kwonlyargs := [], kw_defaults := [], kwarg := none, defaults := [] }
def supB (fld : Str) (a0 a1 a2 a3 a4 a5 b0 b1 b2 b3 : Pos) : List Stmt :=
  [.Expr (.Call (.Attribute (.Call (.Name "super" a0) [] [] a1) "__init__" a2) [.Name fld a3] [] a4) a5, .Assign [.Attribute (.Name "self" b0) fld b1] (.Name fld b2) b3]
def supS (fld : Str) : Scope := { kind := .function, names := [(PySem.Str.ofString "self", .local), (fld, .local), (PySem.Str.ofString "__class__", .free), (PySem.Str.ofString "super", .globalImplicit)], isGenerator := false, isCoroutine := false, more := [] }
/-- what is known of the class at C (named xn), of its __init__ at fI, its cell at cc, its code at cda -/
structure SupT (prog : Program) (K : Frag) (mg : Str → Option Value) (C fI cc cda : Addr) (xn fld qn : Str) (B iB nB : String) (bmB : List Value) : Prop where
  gC : mg xn = some (.ref C)
  kC : keepIn K (.ref C) = true
  q : excInitIn K C bmB nB = true
  over : excOver K C bmB = true
  sa : findIn K (.ref C) "__setattr__" = some (some (.builtin "object.__setattr__"))
  tk : takerIn K C fld = some none
  hd : hasDictIn K C = true
  iC : findIn K (.ref C) "__init__" = some (some (.ref fI))
  tC : typeIn K (.ref fI) = some (.type "function")
  exC : subIn K (.ref C) (.type "BaseException") = some true
  exB : subIn K (.ref C) (.type B) = some true
  own : mroIn K C (.ref C) = some true
  tyC : typeIn K (.ref C) = some (.type "type")
  noAny : nsIn K cStatics "thirdparty.any" = some none
  sup : ks_superIn K C C "__init__" = some (some (.builtin iB))
  cell : ∃ cl cld csl, K.lookup cc = some ⟨cl, cld, .cell (some (.ref C)), csl⟩
  msup : mg "super" = none
  file : ∃ ccl cdd vs ccs tf f, K.lookup cda = some ⟨ccl, cdd, .fields vs, ccs⟩ ∧ vs[2]? = some (.str f tf) ∧ ((prog.main.file : Str) == f) = true
  top : (prog.main.scope.names.lookup ("super" : Str)).isSome = false
  fn : ∃ (oc : Value) (od : Option Addr) (kV doc pm : Value) (an : Option Addr) (ct : Value) (osl : Array (Option Value)) (p1 p2 a0 a1 a2 a3 a4 a5 b0 b1 b2 b3 : Pos),
    K.lookup fI = some ⟨oc, od, .func (ksFn "__init__" qn (supA fld p1 p2) (supB fld a0 a1 a2 a3 a4 a5 b0 b1 b2 b3) (supS fld) .none kV doc pm an (.ref cda) ct cc), osl⟩ ∧ codeIn K (.ref cda) qn = true ∧ (a2.endLine == a4.line) = true
/-- a good name for a field -/
structure FldOk (fld : Str) : Prop where
  l : (supS fld).names.lookup fld = some .local
  s : (supS fld).names.lookup ("self" : Str) = some .local
  c : (supS fld).names.lookup ("__class__" : Str) = some .free
  u : (supS fld).names.lookup ("super" : Str) = some .globalImplicit
  d : (fld == ("__debug__" : Str)) = false
  ns : (("self" : Str) == fld) = false
  b : ∀ (qn : Str) (p1 p2 : Pos) (body : List Stmt) (kV doc pm : Value) (an : Option Addr) (cdv ct : Value) (cc : Addr) (x v : Value), bindArgs (ksFn "__init__" qn (supA fld p1 p2) body (supS fld) .none kV doc pm an cdv ct cc) ⟨[x, v], []⟩ = pure [(("self" : Str), x), (fld, v)]
section
variable {prog : Program} {w : World} {A : Around} {R : Result → Shared → Prop} {s : Shared} {K : Frag} {mg : Str → Option Value} {C fI cc cda : Addr} {xn fld qn : Str} {B iB nB : String} {bmB : List Value}
theorem ld_here {M : Model} {E : Value → Shared → Prop} {env : Env} {m : Str → Option Value} {x : Str} {pos : Pos} {v : Value} {Q : Value → Shared → Prop} (hn : s.heap.Ns env.locals m) (hv : m x = some v) (h : Q v s)
    (hk : env.scope.kind = .function) (hl : env.kindOf x = some .local) (hd : (x == ("__debug__" : Str)) = false) : wpAny M A (eval (.Name x pos) env) Q E s := wpAny_Name (wpAny_loadName_local hk hl hn hv h) hd
theorem sup_eval {env : Env} {a0 a1 a2 a3 a4 : Pos} (hp : (a2.endLine == a4.line) = true) : eval (.Call (.Attribute (.Call (.Name "super" a0) [] [] a1) "__init__" a2) [.Name fld a3] [] a4) env = (do
      let ov ← attributeBase (.Call (.Name "super" a0) [] [] a1) "__init__" env (eval (.Call (.Name "super" a0) [] [] a1) env)
      standAt a2.atName
      let (f, first) ← holding [ov] (getMethod ov "__init__" (do return (← importBound (.Call (.Name "super" a0) [] [] a1) env).getD true))
      callWith a4 f first (backTo a4 (starEach [.Name fld a3] env)) []) := by
  show (do
      let ov ← attributeBase (.Call (.Name "super" a0) [] [] a1) "__init__" env (eval (.Call (.Name "super" a0) [] [] a1) env)
      standAt a2.atName
      methodCall (.Call (.Name "super" a0) [] [] a1) "__init__" a2 a4 env ov 1 (backTo a4 (starEach [.Name fld a3] env)) []) = _
  congr 1
  funext ov
  congr 1
  funext u
  unfold methodCall methodCallPos
  rw [show methodCallForm 1 (backTo a4 (starEach [.Name fld a3] env)) [] = true from rfl]
  simp only [hp, Bool.not_true, Bool.false_or, if_true]
  rfl
theorem sup_init (T : SupT prog K mg C fI cc cda xn fld qn B iB nB bmB) (FO : FldOk fld) (KF : KxsFacts B iB) (FB : ExcBaseFacts B nB iB bmB) (SF : StoreFacts B bmB "object.__setattr__" "object") {x t0 : Addr} {v : Value} (X : K.In s.heap) (hlim : s.heap.NoLimit)
    (hG : s.heap.Ns mainGlobals mg) (hB : ∃ mb, s.heap.Ns builtinsNs mb ∧ ∀ x : Str, x ≠ "__name__" → mb x = bootBuiltins x) (hx : s.heap.get? x = some (HandSPX.excO C t0)) (hnx : K.lookup x = none) (hroom : A.depth < recursionLimit)
    (hq : ∀ h' tk dx t1, (∀ b o, b ≠ x → s.heap.get? b = some o → h'.get? b = some o) → h'.get? x = some { cls := .ref C, dict := some dx, data := .fields #[.ref t1, .none, .none, .none, .bool false, .none] } → s.heap.objs.size ≤ dx → dx ≠ x →
      h'.Ns1 dx (fun y => if y = fld then some v else none) → R (.ok (.ret .none)) { s with heap := h', toks := tk }) :
    codeAny (model prog w) A (.call (.ref fI) ⟨[.ref x, v], []⟩) R s := by
  obtain ⟨oc, od, kV, doc, pm, an, ct, osl, p1, p2, a0, a1, a2, a3, a4, a5, b0, b1, b2, b3, ho, hcd, hpos⟩ := T.fn
  obtain ⟨cl, cld, csl, hcell⟩ := T.cell
  obtain ⟨ccl, cdd, vs, ccs, tf, f, hcode, hvs, hfile⟩ := T.file
  obtain ⟨mb, hBn, hBv⟩ := hB
  cases hc : clsIn K C with
  | none => have z := T.sup; unfold ks_superIn at z; rw [hc] at z; cases z
  | some cd =>
  have hsup := T.sup
  unfold ks_superIn at hsup
  rw [hc] at hsup
  have I0 : InstAt s.heap x (HandSPX.excO C t0) C none := ⟨hx, rfl, rfl, trivial⟩
  have hxC := ks_ne X I0 hc
  have hno : ∀ {h : Heap}, K.In h → Looks (model prog w) h (opaqueClassAbove (.ref C)) none := fun k => looks_opaque k T.noAny
  refine ks_codeAny_call_defAt (binds := [("self", .ref x), (fld, v)]) hroom (X _ _ ho) rfl hlim (codeRec_of X hcd) rfl ?_ ?_ ?_ (fun h₁ hns k => ?_) rfl rfl rfl
  · exact BindsTo.of_eq (FO.b _ _ _ _ _ _ _ _ _ _ _ _ _)
  · intro y hy
    simp only [ksFn, fnX, supS, List.mem_cons, List.not_mem_nil, or_false] at hy
    rcases hy with rfl | rfl | rfl | rfl <;> (intro z; cases z)
  · intro y hy
    simp only [List.mem_cons, List.not_mem_nil, or_false] at hy
    rcases hy with rfl | rfl
    · exact FO.s
    · exact FO.l
  have xL : s.heap.objs.size ≠ x := Nat.ne_of_gt (Heap.lt_size hx)
  have mS : (fun y => List.lookup y (List.reverse [(("self" : Str), Value.ref x), (fld, v)])) ("self" : Str) = some (.ref x) := by
    show List.lookup ("self" : Str) [(fld, v), (("self" : Str), Value.ref x)] = _
    simp [List.lookup, FO.ns]
  have mF : (fun y => List.lookup y (List.reverse [(("self" : Str), Value.ref x), (fld, v)])) fld = some v := by
    show List.lookup fld [(fld, v), (("self" : Str), Value.ref x)] = _
    simp [List.lookup]
  generalize (fun y => List.lookup y (List.reverse [(("self" : Str), Value.ref x), (fld, v)])) = m at hns mS mF
  show _root_.PySem.wpAt _ (A.deeper (ksEnv qn (supS fld) s.heap.objs.size fI (.ref cda) cc)) _ (execs (supB fld a0 a1 a2 a3 a4 a5 b0 b1 b2 b3) (ksEnv qn (supS fld) s.heap.objs.size fI (.ref cda) cc)) _ _ _
  generalize hAd : A.deeper (ksEnv qn (supS fld) s.heap.objs.size fI (.ref cda) cc) = A1
  have X1 : K.In h₁ := X.keeps k
  have hx1 := k _ _ hx
  refine ks_wpAt_execs_cons (ks_wpAt_Expr_any (ks_wpAt_MethodCall (pl := (do return (← importBound (.Call (.Name "super" a0) [] [] a1) (ksEnv qn (supS fld) s.heap.objs.size fI (.ref cda) cc)).getD true)) ?_ (sup_eval hpos)))
  obtain ⟨oD, hD1, hD2⟩ : ∃ oD, h₁.get? C = some oD ∧ oD.data = .cls cd := by
    unfold clsIn at hc
    split at hc
    · rename_i c d cd' sl ho
      cases hc
      exact ⟨_, X1 _ _ ho, rfl⟩
    · cases hc
  refine ks_wpAt_super_base (env := ksEnv qn (supS fld) s.heap.objs.size fI (.ref cda) cc) FO.u FO.c (by decide) rfl (X1 _ _ ho) rfl rfl rfl (X1 _ _ hcode) rfl hvs hfile T.top ?_
  refine ks_loadName_global rfl FO.u (loadGlobal_builtin (env := ksEnv qn (supS fld) s.heap.objs.size fI (.ref cda) cc) (hG.keeps k) T.msup (hBn.keeps k) ((hBv _ (by decide +kernel)).trans (by first | rfl | kernel_rfl)) ⟨rfl, ?_⟩)
  refine wpAny_loadName_free rfl FO.c rfl ⟨_, X1 _ _ hcell, rfl⟩ ?_
  refine wpAny_loadName_local rfl FO.s hns mS ?_
  refine ks_wpAny_isType_cls hD1 hD2 ⟨rfl, ?_⟩
  refine ks_wpAny_call_super hD1 hD2 hx1 rfl (fun c e => by cases e) (looks_mroIn X1 T.own) (fun h2 e2 k2 => ?_)
  have X2 : K.In h2 := X1.keeps k2
  have hx2 := k2 _ _ hx1
  refine kxs_getMethod KF e2 (hno X2) (l₀ := cd.mro) (fun A Q E s k q => wpAny_bind ((looks_clsIn X2 hc) A _ E s k (wpAny_pure q))) rfl X2 hsup ((InstAt.type (od := none) ⟨hx2, rfl, rfl, trivial⟩).andThen (looks_subIn X2 T.exB)) hxC (by decide) ?_
  obtain ⟨gh, gd, gt⟩ : ∃ a b c, s.gens = a ∧ s.drawn = b ∧ s.os = c := ⟨_, _, _, rfl, rfl, rfl⟩
  have k3 : ∀ b o, h2.get? b = some o → (h2.push (kxs_mw iB x)).get? b = some o := fun b o e => Heap.get?_push_of_some _ e
  have hu : (h2.push (kxs_mw iB x)).get? h2.objs.size = some (kxs_mw iB x) := Heap.get?_push_at rfl rfl
  have X3 : K.In (h2.push (kxs_mw iB x)) := X2.keeps k3
  have hx3 := k3 _ _ hx2
  have hn3 : (h2.push (kxs_mw iB x)).Ns s.heap.objs.size m := (hns.keeps k2).keeps k3
  have old3 : ∀ b o, s.heap.get? b = some o → (h2.push (kxs_mw iB x)).get? b = some o := fun b o e => k3 _ _ (k2 _ _ (k _ _ e))
  have big3 : s.heap.objs.size < (h2.push (kxs_mw iB x)).objs.size := hn3.lt
  generalize h2.push (kxs_mw iB x) = h3 at hu X3 hx3 hn3 old3 big3
  generalize h2.objs.size = u at hu
  refine kxs_callWith (i := iB) (x := x) rfl (evalArgs_plain ?_)
  refine Calls.spliced_cons (ld_here hn3 mF ?_ rfl FO.l FO.d)
  refine Calls.spliced_nil ⟨hu, ?_⟩
  obtain ⟨nm, N', qn', bs, bm, hdct, sn, sub, ab, col, dd, k0, k1, k2', k3', k5, hC, hT⟩ := excInit_of X3 T.q
  show wpAny _ _ (call (.ref u) [v]) _ _ _
  refine wpAny_call (codeAny_of_tree ?_)
  show wpAny _ A1.in1 (callAny (.ref u) ⟨[v], []⟩) _ _ _
  simp only [callAny]
  refine wpAny_bind (wpAny_load hu ?_)
  simp only [kxs_mw, show (Value.type "method-wrapper" == Value.type "method" || Value.type "method-wrapper" == Value.type "builtin_function_or_method" || Value.type "method-wrapper" == Value.type "method-wrapper") = true by decide, if_true]
  refine KFB.if_so (by decide) ?_
  refine wpAny_bind (check_bound_init FB.toExcCallFacts hC hx3 rfl ?_)
  refine wpAny_bind (wpAny_pure (wpAny_pure ⟨plainId_quiet FB.init.plain _, codeAny_builtin FB.initEntry ?_⟩))
  refine exc_init_tree (cls := .ref C) (t0 := t0) (dv := none) (c2 := .none) (c3 := .none) (b4 := .bool false) hx3 (by show 1 ≤ sizeLine; rw [sizeLine_eq]; decide) fun h4 k4 hx4 _ => ?_
  have X4 : K.In h4 := fun b o e => k4 b o (fun z => by rw [z, hnx] at e; cases e) (X3 b o e)
  have hn4 : h4.Ns s.heap.objs.size m := by
    obtain ⟨oL, es, ep, hL, r⟩ := hn3
    exact ⟨oL, es, ep, k4 _ _ xL hL, r⟩
  refine ks_wpAt_execs_cons (ks_wpAt_Assign_Attr (wpAt_of_wpAny (ld_here hn4 mF (ld_here hn4 mS ?_ rfl FO.s (by decide)) rfl FO.l FO.d)) (by rfl))
  have lt4 : s.heap.objs.size < h4.objs.size := hn4.lt
  refine set_plain (od := none) X4 ⟨hx4, rfl, rfl, trivial⟩ T.sa (osa_openX (od := none) SF X4 ⟨hx4, rfl, rfl, trivial⟩ T.over T.tk fun b => ?_)
  obtain ⟨cd', hc', hd'⟩ := any_some T.hd
  refine wpAny_bind (wpAny_pure (wpAny_bind (instanceDict_exc hx4 (looks_clsIn X4 hc') hd' ?_)))
  have hxs : x < h4.objs.size := Heap.lt_size hx4
  show wpAny _ _ (storeInDict h4.objs.size _ fld v) _ _ _
  refine HandSPX.store_in_new ?_ ?_
  · exact ⟨_, #[], _, (Heap.get?_update_ne _ _ _ _ (Nat.ne_of_gt hxs)).trans (Heap.get?_push_at rfl rfl), rfl, fun e he => absurd he (by simp), fun _ => rfl⟩
  · intro h' tk' hn' hs
    have hx5 : (h4.push (dictOf [] 0)).get? x = some (excObj C h3.objs.size none .none) := Heap.get?_push_of_some _ hx4
    refine wpAt_of_wpAny (wpAny_execs_nil ?_)
    refine hq h' tk' h4.objs.size h3.objs.size (fun b o hb ho' => ?_) ?_ (by omega) (Nat.ne_of_gt hxs) hn'
    · have e4 := k4 b o hb (old3 _ _ ho')
      exact (hs.2 b (Nat.ne_of_lt (Heap.lt_size e4))).trans ((Heap.get?_update_ne _ _ _ _ hb).trans (Heap.get?_push_of_some _ e4))
    · exact (hs.2 x (Nat.ne_of_lt hxs)).trans (Heap.get?_update_self _ hx5 rfl)
/-- what C(v) leaves -/
structure MadeX (h h' : Heap) (e C d : Addr) (fld : Str) (v : Value) : Prop where
  keep : ∀ b o, h.get? b = some o → h'.get? b = some o
  new : h.objs.size ≤ e
  obj : ∃ oe vs, h'.get? e = some oe ∧ oe.cls = .ref C ∧ oe.dict = some d ∧ oe.data = .fields vs ∧ vs[1]? = some .none
  dbig : h.objs.size ≤ d
  dne : d ≠ e
  ns : h'.Ns1 d (fun y => if y = fld then some v else none)
theorem sup_made (T : SupT prog K mg C fI cc cda xn fld qn B iB nB bmB) (FO : FldOk fld) (KF : KxsFacts B iB) (FB : ExcBaseFacts B nB iB bmB) (SF : StoreFacts B bmB "object.__setattr__" "object") {v : Value} (X : K.In s.heap) (hlim : s.heap.NoLimit)
    (hG : s.heap.Ns mainGlobals mg) (hB : ∃ mb, s.heap.Ns builtinsNs mb ∧ ∀ x : Str, x ≠ "__name__" → mb x = bootBuiltins x) (hroom : A.depth + 1 < recursionLimit)
    (hq : ∀ h' tk e d, MadeX s.heap h' e C d fld v → R (.ok (.ret (.ref e))) { s with heap := h', toks := tk }) :
    codeAny (model prog w) A (.call (.ref C) ⟨[v], []⟩) R s := by
  obtain ⟨nm, N', qn', bs, bm, hdct, sn, sub, ab, col, dd, k0, k1, k2', k3', k5, hC, hT⟩ := excInit_of X T.q
  obtain ⟨hp, g, dr, tk, os⟩ := s
  have up : ∀ b o, hp.get? b = some o → ((hp.push (kdv_tup [v])).push (HandSPX.excO C hp.objs.size)).get? b = some o := fun b o e => Heap.get?_push_of_some _ (Heap.get?_push_of_some _ e)
  have hx : ((hp.push (kdv_tup [v])).push (HandSPX.excO C hp.objs.size)).get? (hp.objs.size + 1) = some (HandSPX.excO C hp.objs.size) := by heap_get
  have hnx : K.lookup (hp.objs.size + 1) = none := by
    cases e : K.lookup (hp.objs.size + 1) with
    | none => rfl
    | some o => exact absurd (Nat.lt_of_succ_lt (Heap.lt_size (show hp.get? (hp.objs.size + 1) = some o from X _ _ e))) (Nat.lt_irrefl _)
  have one : [v].length ≤ sizeLine := by rw [sizeLine_eq]; exact (by decide : 1 ≤ 16777216)
  refine HandSPX.call_own FB hT hC (looks_findIn X T.iC) (fun self => bind_fn X self T.tC) one ?_
  obtain ⟨mb, hBn, hBv⟩ := hB
  refine sup_init (s := ⟨(hp.push (kdv_tup [v])).push (HandSPX.excO C hp.objs.size), g, dr, tk, os⟩) T FO KF FB SF (X.keeps up) (hlim.keeps up) (hG.keeps up) ⟨mb, hBn.keeps up, hBv⟩ hx hnx hroom ?_
  intro h' tk' dx t1 kp hx' dn dne hns
  have dn' : hp.objs.size + 1 + 1 ≤ dx := by
    have q := dn
    rw [Heap.size_push, Heap.size_push] at q
    exact q
  refine ⟨rfl, hq h' tk' (hp.objs.size + 1) dx ⟨fun b o e => kp b o (Nat.ne_of_lt (Nat.lt_succ_of_lt (Heap.lt_size e))) (up b o e), Nat.le_succ _, ⟨_, _, hx', rfl, rfl, rfl, rfl⟩, Nat.le_trans (Nat.le_trans (Nat.le_succ _) (Nat.le_succ _)) dn', dne, hns⟩⟩
end
end Dx
namespace Dx
open PySem PySem.Spec PyProof.Rows
open L2 (PE PT PA PS PSs PG PGs PI Cx WX Takes HO Hp VK RelV RelO XK Inv PMk MkP)
theorem relO_fld {v : L2.V} {v' : Value} {fld : Str} (r : RelV v v') (f : Str) : RelO (List.lookup f [(fld, v)]) (if f = fld then some v' else none) := by
  by_cases hw : f = fld
  · subst hw
    have q : List.lookup f [(f, v)] = some v := by simp [List.lookup]
    rw [if_pos rfl, q]
    exact r
  · have qw : (f == fld) = false := by simpa using hw
    have q : List.lookup f [(fld, v)] = none := by simp [List.lookup, qw]
    rw [if_neg hw, q]
    trivial
section
variable {X : Cx} {C fI cc cda : Addr} {xn fld qn : Str} {B iB nB : String} {bmB : List Value}
def tMkX (C : Addr) (fld : Str) (ta : L2.TA) : L2.St → Hp → XK → Prop := fun σ H Q => ta σ H fun vs H1 => ∃ v, vs = [v] ∧ ∀ d, H1 d = none → Q (.ref C) (some d) (L2.upd H1 d (.xd [(fld, v)]))
/-- C(e) -/
theorem pmk_sup {a : Expr} {ta : L2.TA} {p pos : Pos} {k : Nat} (T : SupT X.prog X.K X.mg C fI cc cda xn fld qn B iB nB bmB) (FO : FldOk fld) (KF : PySem.W.KxsFacts B iB) (FB : ExcBaseFacts B nB iB bmB) (SF : StoreFacts B bmB "object.__setattr__" "object")
    (hr : L2.Room k X.A) (ha : PA X [a] ta) (hg : L2.Gl X xn) (hdb : (xn == ("__debug__" : Str)) = false)
    (he : starEach (a :: []) X.env = (false, eval a X.env) :: starEach [] X.env := by rfl) (hpl : (backTo pos (starEach [] X.env)).any (·.1) = false := by rfl) :
    PMk X (.Call (.Name xn p) [a] [] pos) (tMkX C fld ta) := by
  intro pins s σ H Q I h
  refine wpAny_Call_Name_kw (L2.ld_glob I hg T.gC ?_ hdb)
  refine PySem.W.callWith_K (h₀ := X.base) I.ok.mod.kin T.kC (L2.thn (ha.run pos pins s σ H _ I h) fun us s1 hh => ?_) he hpl
  obtain ⟨vs, H1, I1, r1, v, ev, q1⟩ := hh
  subst ev
  refine ⟨I1.kIn, ?_⟩
  cases r1 with
  | cons rv rn =>
    rename_i v' us'
    cases rn
    show wpAny _ _ (call (.ref C) [v']) _ _ _
    have hlim := I1.nolimit
    have hG : s1.heap.Ns mainGlobals X.mg := I1.ok.mod.glob.keeps fun b o e => (I1.bs b o e).1
    obtain ⟨mb, hB1, hB2⟩ := I1.ok.mod.blt
    have hB3 : s1.heap.Ns builtinsNs mb := hB1.keeps fun b o e => (I1.bs b o e).1
    obtain ⟨hp, g, dr, tk, os⟩ := s1
    refine wpAny_call (sup_made T FO KF FB SF I1.kIn hlim hG ⟨mb, hB3, hB2⟩ (by have := hr.dp; omega) fun h' tk' e d M => ?_)
    show MkP X pins σ Q (.ref e) ⟨h', g, dr, tk', os⟩
    obtain ⟨oe, fv, hoe, hc, hd, hdat, h1⟩ := M.obj
    have hns := M.ns
    obtain ⟨G', g1, g2⟩ := L2.restrict h' fun b => decide (b ≠ e)
    have gk : ∀ b, b ≠ e → G'.get? b = h'.get? b := fun b hb => g1 b (decide_eq_true hb)
    have ge : G'.get? e = none := g2 e (by simp)
    have old : ∀ b o, hp.get? b = some o → G'.get? b = some o := fun b o z => (gk b (Nat.ne_of_lt (Nat.lt_of_lt_of_le (Heap.lt_size z) M.new))).trans (M.keep b o z)
    have ob : L2.ObjOk X.prog X.w (L2.upd H1 d (.xd [(fld, v)])) G' d (.xd [(fld, v)]) := ⟨_, hns.at (fun o z => (gk d M.dne).trans z), fun f => relO_fld rv f⟩
    have J : Inv X pins σ (L2.upd H1 d (.xd [(fld, v)])) ⟨G', g, dr, tk', os⟩ := I1.laid (t' := tk') old M.dbig ob
    refine ⟨e, oe, fv, ⟨G', g, dr, tk', os⟩, _, .ref C, some d, rfl, J, fun b o z => ?_, ge, hoe, ⟨hc, hd⟩, hdat, h1, ?_, rfl, I1.bare, L2.raises_own T.exC T.tyC, q1 d (I1.hok.fresh M.dbig)⟩
    · by_cases hb : b = e
      · have z' : G'.get? b = some o := z
        rw [hb, ge] at z'
        cases z'
      · exact (gk b hb).symm.trans z
    · rw [L2.upd_ne (Ne.symm M.dne)]
      exact I1.hok.fresh M.new
end
end Dx

set_option maxHeartbeats 4000000
/-! Dx2: try with several clauses, each with or without a name for what it catches. -/
namespace Dx
open PySem PySem.Spec PyProof.Rows L2
/-- a clause: its class, the slot of its name, its suite -/
structure Cla where
  c : Value
  i : Option Nat
  ts : Addr → Value → Option Addr → TS
/-- behind a named suite the name is gone -/
def endsN (o : Option Nat) (D : Ends) : Ends := match o with
  | none => D
  | some i => { nx := fun σ H => D.nx (σ.set i none) H, rt := D.rt, bk := fun σ H => D.bk (σ.set i none) H, ct := fun σ H => D.ct (σ.set i none) H }
def slotN (o : Option Nat) (a : Addr) (σ : L2.St) : L2.St := match o with
  | none => σ
  | some i => σ.set i (some (.ref a))
def wCl (K : PySem.W.Frag) (Wout : WX) (D : Ends) : List Cla → WX
  | [] => Wout
  | k :: r => fun cls d σ H => ∃ b, PySem.W.exmOne K cls k.c = some b ∧ (b = true → ∀ a, H a = none → k.ts a cls d (endsN k.i D) (slotN k.i a σ) H) ∧ (b = false → wCl K Wout D r cls d σ H)
inductive ClsOk (X : Cx) : List ExceptHandler → List Cla → Prop
  | nil : ClsOk X [] []
  | plain {x : Str} {c : Value} {ts : Addr → Value → Option Addr → TS} {b₀ : Stmt} {suite : List Stmt} {p1 p2 : Pos} {hds : List ExceptHandler} {l : List Cla} (hc : Names X x c)
      (hsu : ∀ (a : Addr) (oe : Obj) (cls : Value) (d : Option Addr) (pn : List (Addr × Obj)), Zc cls d oe → (∃ vs, oe.data = .fields vs) → PSs (X.suite a ((a, oe) :: pn)) (b₀ :: suite) (ts a cls d)) (r : ClsOk X hds l) :
      ClsOk X (.ExceptHandler (some (.Name x p1)) none (b₀ :: suite) p2 :: hds) (⟨c, none, ts⟩ :: l)
  | named {x n : Str} {i : Nat} {c : Value} {ts : Addr → Value → Option Addr → TS} {b₀ : Stmt} {suite : List Stmt} {p1 p2 : Pos} {hds : List ExceptHandler} {l : List Cla} (hc : Names X x c) (hi : X.N[i]? = some n) (hln : X.env.kindOf n = some .local)
      (hsu : ∀ (a : Addr) (oe : Obj) (cls : Value) (d : Option Addr) (pn : List (Addr × Obj)), Zc cls d oe → (∃ vs, oe.data = .fields vs) → PSs (X.suite a ((a, oe) :: pn)) (b₀ :: suite) (ts a cls d)) (r : ClsOk X hds l) :
      ClsOk X (.ExceptHandler (some (.Name x p1)) (some n) (b₀ :: suite) p2 :: hds) (⟨c, some i, ts⟩ :: l)
section
variable {X : Cx} {body : List Stmt} {h₀ : ExceptHandler} {hds : List ExceptHandler} {l : List Cla} {pos : Pos} {tb : WX → TS} {Wout : WX}
theorem try_any (hs : X.stack = X.env :: X.outer) (hf : X.env.frame = some X.env.locals) (hN : X.N.Nodup) (tk : Takes X Wout)
    (hb : ∀ (W : WX) (pn : List (Addr × Obj)) (xe : Value → Shared → Prop), Takes (X.tr pn xe) W → PassesOwn (model X.prog X.w) X.A X.env xe → PSs (X.tr pn xe) body (tb W))
    (hh : ClsOk X (h₀ :: hds) l) : PS X (.Try body (h₀ :: hds) [] [] pos) (fun D σ H => tb (wCl X.K Wout D l) D σ H) := by
  refine ⟨fun pins s σ H D I h => ?_⟩
  have ok := I.ok
  have frames : X.A.frames = some (X.env :: X.outer) := by rw [ok.frames, hs]
  refine wpAny_Try_except ?_
  refine wpAny_mono ((hb (wCl X.K Wout D l) (X.pn ++ pins) (fun e s₁ => wpAny (model X.prog X.w) X.A (noteFrame e X.env) (fun _ s₂ => wpAny (model X.prog X.w) X.A (setFlight e none) (fun _ s₃ => wpAny (model X.prog X.w) X.A (handleBy e X.env (h₀ :: hds)) (SP X pins D) X.xe s₃) X.xe s₂) X.xe s₁)
    (fun u s' xx => ?_) PassesOwn.looking).run [] s σ H D (I.toTry _) h) (fun f s1 hsp => ?_) (fun e s1 he => he)
  case refine_2 =>
    cases f with
    | next => obtain ⟨σ', H', J', q⟩ := hsp; exact wpAny_execs_nil ⟨σ', H', J'.ofTry ok, q⟩
    | brk => obtain ⟨σ', H', J', q⟩ := hsp; exact ⟨σ', H', J'.ofTry ok, q⟩
    | cont => obtain ⟨σ', H', J', q⟩ := hsp; exact ⟨σ', H', J'.ofTry ok, q⟩
    | ret u => obtain ⟨v, σ', H', J', r, q⟩ := hsp; exact ⟨v, σ', H', J'.ofTry ok, r, q⟩
  obtain ⟨a, B, sI, pins', σ', H', cls, d, rfl, J', nb, up, sky, na, os, ag, w⟩ := xx
  have J : Inv X pins σ' H' sI := J'.ofTry ok
  rw [hs] at sky
  have sky2 : Sky B (X.env :: X.outer) a (Zc cls d) X.env.locals s'.heap := sky
  show wpAny _ X.A (noteFrame (.ref a) X.env) _ _ _
  refine Sky.land Zc.steady frames hf sky2 fun h3 fl3 up3 => ?_
  have J3 : Inv X pins σ' H' { s' with heap := h3 } := J.landed nb fl3.1 (up.trans up3) os ag
  obtain ⟨oe3, vs3, he3, hz3, hd3⟩ := fl3.there
  have nfr : a ∉ frs (X.env :: X.outer) := fun hm => by
    obtain ⟨_, o', e', hnf⟩ := fl3.2.2.1.mem hm
    rw [he3] at e'
    cases e'
    exact hnf _ hd3
  have nL : a ≠ X.env.locals := fun z => nfr (List.mem_filterMap.mpr ⟨X.env, List.mem_cons_self, by rw [hf, z]⟩)
  have nF : a ∉ X.fs := fun hm => by
    obtain ⟨e, he, q⟩ := List.mem_filterMap.mp hm
    exact nfr (List.mem_filterMap.mpr ⟨e, List.mem_cons_of_mem _ he, q⟩)
  have S3 := J3.suite he3 hd3 na nL nF
  have LT : PySem.W.Looks (model X.prog X.w) h3 (typeOf (.ref a)) cls := fun A Q E s k q => wpAny_typeOf_ref (k _ _ he3) (by rw [hz3.1]; exact q)
  -- a clause's class is read
  have test : ∀ {x : Str} {c : Value} {np : Pos} {Q : Value → Shared → Prop} {E : Value → Shared → Prop}, Names X x c → Q c { s' with heap := h3 } → wpAny (model X.prog X.w) (X.A.mark (some (.ref a))) (eval (.Name x np) X.env) Q E { s' with heap := h3 } := fun {x c np Q E} hc q => by
    obtain ⟨hg, hdbg, hm | ⟨hm, hv, hnn⟩⟩ := hc
    · exact ld_glob (X := X.suite a ((a, oe3) :: (X.pn ++ pins))) S3 hg hm q hdbg
    · exact ld_blt (X := X.suite a ((a, oe3) :: (X.pn ++ pins))) S3 hg hm hv q hnn hdbg
  have go : ∀ {hs' : List ExceptHandler} {l' : List Cla}, ClsOk X hs' l' → wCl X.K Wout D l' cls d σ' H' → wpAny (model X.prog X.w) X.A (handleBy (.ref a) X.env hs') (SP X pins D) X.xe { s' with heap := h3 } := by
    intro hs' l' hk
    induction hk with
    | nil =>
      intro w
      refine wpAny_handleBy_nil ?_
      obtain ⟨k1, k2, k3, oe, vs, T, oT, ts', he, hz, hd, h1, hr⟩ := id fl3
      unfold PySem.passOn
      refine wpAny_bind (wpAny_field he hd h1 ?_)
      rw [if_neg (by simp : ¬ ((Value.ref T == Value.none) = true))]
      have fin : wpAny (model X.prog X.w) X.A (setFlight (.ref a) X.env.frame) (fun _ s4 => wpAny (model X.prog X.w) X.A (throw (.ref a) : Sem Flow) (SP X pins D) X.xe s4) X.xe { s' with heap := h3 } := by
        rw [hf]
        refine HandSPX.setFlight_upZ fl3 fun h4 hh4 up4 => wpAny_throw (tk _ _ ⟨a, B, sI, pins, σ', H', cls, d, rfl, J, nb, (up.trans up3).trans up4, .inr (.inr (by rw [hs]; exact hh4)), na, os, ag, w⟩)
      first
        | exact wpAny_bind (wpAny_pure (wpAny_bind fin))
        | exact wpAny_bind fin
    | @plain x c ts b₀ suite np pos' hds2 l2 hc hsu r ih =>
      intro w
      obtain ⟨b, hb1, hyes, hno⟩ := w
      refine wpAny_handleBy_cons (codeAny_handlers_test ?_) (by intro q; cases q)
      have LM := PySem.W.exm_one (M := model X.prog X.w) (J3.kIn) LT hb1
      refine test hc (LM.here ?_)
      cases b with
      | false => exact ih (hno rfl)
      | true =>
        refine codeAny_handlers_suite ?_
        refine HandSPX.lands_againZ fl3 fun h4 fl4 up4 => ?_
        have J4 : Inv X pins σ' H' { s' with heap := h4 } := J.landed nb fl4.1 ((up.trans up3).trans up4) os ag
        obtain ⟨oe4, vs4, he4, hz4, hd4⟩ := fl4.there
        have S4 := J4.suite he4 hd4 na nL nF
        refine wpAny_mono ((hsu a oe4 cls d (X.pn ++ pins) hz4 ⟨_, hd4⟩).run [] _ _ H' _ S4 (hyes rfl a na)) (fun f s6 hsp => ?_) (fun _ _ z => False.elim z)
        cases f with
        | next => obtain ⟨σ6, H6, S6, q6⟩ := hsp; exact ⟨_, _, S6.unsuite ok, q6⟩
        | brk => obtain ⟨σ6, H6, S6, q6⟩ := hsp; exact ⟨_, _, S6.unsuite ok, q6⟩
        | cont => obtain ⟨σ6, H6, S6, q6⟩ := hsp; exact ⟨_, _, S6.unsuite ok, q6⟩
        | ret u => obtain ⟨v6, σ6, H6, S6, r6, q6⟩ := hsp; exact ⟨_, _, _, S6.unsuite ok, r6, q6⟩
    | @named x n i c ts b₀ suite np pos' hds2 l2 hc hi hln hsu r ih =>
      intro w
      obtain ⟨b, hb1, hyes, hno⟩ := w
      refine wpAny_handleBy_cons (codeAny_handlers_test ?_) (by intro q; cases q)
      have LM := PySem.W.exm_one (M := model X.prog X.w) (J3.kIn) LT hb1
      refine test hc (LM.here ?_)
      cases b with
      | false => exact ih (hno rfl)
      | true =>
        refine codeAny_handlers_suite_as ?_
        refine HandSPX.lands_againZ fl3 fun h4 fl4 up4 => ?_
        have J4 : Inv X pins σ' H' { s' with heap := h4 } := J.landed nb fl4.1 ((up.trans up3).trans up4) os ag
        obtain ⟨oe4, vs4, he4, hz4, hd4⟩ := fl4.there
        have S4 := J4.suite he4 hd4 na nL nF
        refine store_ok (X := X.suite a ((a, oe4) :: (X.pn ++ pins))) (v := .ref a) S4 hN hi (.inl hln) rfl (fun s5 S5 => ?_) (.inr hln)
        refine wpAny_mono ((hsu a oe4 cls d (X.pn ++ pins) hz4 ⟨_, hd4⟩).run [] s5 _ H' _ S5 (hyes rfl a na)) (fun f s6 hsp => ?_) (fun _ _ z => False.elim z)
        have last : ∀ {σ6 : L2.St} {H6 : Hp} {Q : Shared → Prop}, Inv (X.suite a ((a, oe4) :: (X.pn ++ pins))) [] σ6 H6 s6 → (∀ s7, Inv X pins (σ6.set i none) H6 s7 → Q s7) →
            wpAny (model X.prog X.w) X.A (do bindName X.env n .none; unbindBehindTheSuite X.env n pos') (fun _ s7 => Q s7) X.xe s6 := fun {σ6 H6 Q} S6 hq => gone_ok (S6.unsuite ok) hN hi hln hq
        cases f with
        | next => obtain ⟨σ6, H6, S6, q6⟩ := hsp; exact last S6 fun s7 J7 => ⟨_, _, J7, q6⟩
        | brk => obtain ⟨σ6, H6, S6, q6⟩ := hsp; exact last S6 fun s7 J7 => ⟨_, _, J7, q6⟩
        | cont => obtain ⟨σ6, H6, S6, q6⟩ := hsp; exact last S6 fun s7 J7 => ⟨_, _, J7, q6⟩
        | ret u => obtain ⟨v6, σ6, H6, S6, r6, q6⟩ := hsp; exact last S6 fun s7 J7 => ⟨_, _, _, J7, r6, q6⟩
  exact go hh w
end
end Dx

set_option maxHeartbeats 4000000
/-! Dx3: raise; a def that calls what it got within a try; a lambda handed to such a def. -/
namespace Dn
open PySem PySem.Spec PyProof.Rows
open L2 (PE PT PA PS PSs PG PGs PI Cx WX Takes HO Hp VK XK)
/-! ### raise -/
def OwnX (K : PySem.W.Frag) (mg : Str → Option Value) (x : Str) : Prop := ∃ (C : Addr) (B newId initId : String) (bmB : List Value), ExcBaseFacts B newId initId bmB ∧ PySem.W.excIn K C bmB newId = true ∧ mg x = some (.ref C) ∧ PySem.W.keepIn K (.ref C) = true ∧ PySem.W.subIn K (.ref C) (.type "BaseException") = some true ∧ PySem.W.typeIn K (.ref C) = some (.type "type")
def SupX (prog : Program) (K : PySem.W.Frag) (mg : Str → Option Value) (x fld : Str) : Prop := ∃ (C fI cc cda : Addr) (qn : Str) (B iB nB : String) (bmB : List Value), Dx.SupT prog K mg C fI cc cda x fld qn B iB nB bmB ∧ Dx.FldOk fld ∧ PySem.W.KxsFacts B iB ∧ ExcBaseFacts B nB iB bmB ∧ StoreFacts B bmB "object.__setattr__" "object"
def raiseD (C : Str) : DS := fun _ s h => .ex ⟨C, none⟩ s h
def raiseVD (C fld : Str) (f : DE) : DS := fun n s h => (f n s h).then s fun a h1 => .ex ⟨C, some (fld, a)⟩ s h1
section
variable {X : Cx} {W : WX} {e : Expr} {f : DE} {x fld m : Str} {j k : Nat} {p p2 pos pos2 : Pos}
theorem s_raise (hc : X.calm = true) (tk : Takes X W) (O : OwnX X.K X.mg x) (hg : L2.Gl X x) (hdb : (x == ("__debug__" : Str)) = false := by decide) : PSd X W (.Raise (some (.Call (.Name x p) [.Constant (.str m) j p2] [] pos)) none pos2) (raiseD x) := by
  obtain ⟨C, B, newId, initId, bmB, F, q, gC, kC, h1, h2⟩ := O
  refine ps_weak (L2.ps_raise hc tk (L2.pmk_own F q gC kC (L2.raises_own h1 h2) hg hdb)) fun D sg H w => ?_
  obtain ⟨n, rho, s, h, hr, l, p⟩ := w
  exact p (.ref C) none sg rho H Nx.refl hr l ⟨⟨C, rfl, gC⟩, fun _ => rfl, fun f a e => by cases e⟩
theorem s_raiseV (hc : X.calm = true) (tk : Takes X W) (O : SupX X.prog X.K X.mg x fld) (hr : L2.Room k X.A) (hg : L2.Gl X x) (hf : PEd X W e f) (hdb : (x == ("__debug__" : Str)) = false := by decide)
    (he : starEach (e :: []) X.env = (false, eval e X.env) :: starEach [] X.env := by rfl) (hpl : (backTo pos (starEach [] X.env)).any (·.1) = false := by rfl) : PSd X W (.Raise (some (.Call (.Name x p) [e] [] pos)) none pos2) (raiseVD x fld f) := by
  obtain ⟨C, fI, cc, cda, qn, B, iB, nB, bmB, T, FO, KF, FB, SF⟩ := O
  refine ps_weak (L2.ps_raise hc tk (Dx.pmk_sup T FO KF FB SF hr (L2.pa_cons hf L2.pa_nil he) hg hdb he hpl)) fun D sg H w => ?_
  obtain ⟨n, rho, s, h, hr, l, p⟩ := w
  refine ⟨n, rho, s, h, hr, l, PostS.then hr l p fun a h1 v rho1 H1 n1 hr1 r1 p1 => ?_⟩
  refine ⟨v, rfl, fun d hd => ?_⟩
  obtain ⟨n2, hr2⟩ := hr1.tup (u := .xd [(fld, v)]) hd
  have dn : d ∉ rho1 := fun m => by
    obtain ⟨_, _, w, _, _, hw, _⟩ := hr1.ex m
    rw [hd] at hw; cases hw
  refine p1 (.ref C) (some d) sg rho1 _ n2 hr2 ((l.mono hr n1).mono hr1 n2) ⟨⟨C, rfl, T.gC⟩, fun z => (by cases z), fun f' a' z => ?_⟩
  injection z with z
  injection z with z1 z2
  subst z1 z2
  exact ⟨d, v, rfl, L2.upd_same, dn, r1.mono hr1 n2⟩
end
/-! ### a def that calls what it got, within a try -/
structure CHd where
  c : Str
  su : Xn → Hs → R A
/-- tb: of each class that may be raised, those above it -/
def pickC (tb : List (Str × List Str)) (cs : List CHd) (x : Xn) (h : Hs) : R A := match tb.lookup x.cls with
  | none => .no
  | some up => match cs.find? fun k => up.contains k.c with
    | some k => k.su x h
    | none => .no
abbrev LF := Nat → Hs → R A
/-- try: a() except ..; return fin -/
def wordA (tb : List (Str × List Str)) (cs : List CHd) (fin : A) (L : LF) : LF := fun n h => match L n h with
  | .ok _ h1 => .ok fin h1
  | .ex x h1 => pickC tb cs x h1
  | .no => .no
/-- try: return (c, a()) except .. -/
def metB (tb : List (Str × List Str)) (cs : List CHd) (c : Str) (L : LF) : LF := fun n h => match L n h with
  | .ok a h1 => .ok (.tup [.str c, a]) h1
  | .ex x h1 => pickC tb cs x h1
  | .no => .no
def TbOk (K : PySem.W.Frag) (mg : Str → Option Value) (tb : List (Str × List Str)) (cs : List CHd) : Prop := ∀ x up, tb.lookup x = some up → ∀ k ∈ cs, ∃ C1 C2 : Addr, mg x = some (.ref C1) ∧ mg k.c = some (.ref C2) ∧ PySem.W.exmOne K (.ref C1) (.ref C2) = some (up.contains k.c)
def tSu (K : PySem.W.Frag) (mg : Str → Option Value) (i : Option Nat) (su : Xn → Hs → R A) : Addr → Value → Option Addr → L2.TS := fun a cls d D σ H =>
  (∃ σ0, σ = Dx.slotN i a σ0) ∧ ∃ x rho h, HR K mg rho H h ∧ XR K mg rho H x cls d ∧ PostV K mg rho H (fun _ _ _ => False) (fun v H' => D.rt v H') (su x h)
inductive ClD (X : Cx) : List ExceptHandler → List CHd → List Dx.Cla → Prop
  | nil : ClD X [] [] []
  | plain {x : Str} {C : Addr} {su : Xn → Hs → R A} {b₀ : Stmt} {suite : List Stmt} {p1 p2 : Pos} {hds : List ExceptHandler} {cs : List CHd} {l : List Dx.Cla} (hg : L2.Gl X x) (hd : (x == ("__debug__" : Str)) = false) (hm : X.mg x = some (.ref C))
      (hsu : ∀ (a : Addr) (oe : Obj) (cls : Value) (d : Option Addr) (pn : List (Addr × Obj)), L2.Zc cls d oe → (∃ vs, oe.data = .fields vs) → PSs (X.suite a ((a, oe) :: pn)) (b₀ :: suite) (tSu X.K X.mg none su a cls d)) (r : ClD X hds cs l) :
      ClD X (.ExceptHandler (some (.Name x p1)) none (b₀ :: suite) p2 :: hds) (⟨x, su⟩ :: cs) (⟨.ref C, none, tSu X.K X.mg none su⟩ :: l)
  | named {x n : Str} {i : Nat} {C : Addr} {su : Xn → Hs → R A} {b₀ : Stmt} {suite : List Stmt} {p1 p2 : Pos} {hds : List ExceptHandler} {cs : List CHd} {l : List Dx.Cla} (hg : L2.Gl X x) (hd : (x == ("__debug__" : Str)) = false) (hm : X.mg x = some (.ref C)) (hi : X.N[i]? = some n) (hln : X.env.kindOf n = some .local)
      (hsu : ∀ (a : Addr) (oe : Obj) (cls : Value) (d : Option Addr) (pn : List (Addr × Obj)), L2.Zc cls d oe → (∃ vs, oe.data = .fields vs) → PSs (X.suite a ((a, oe) :: pn)) (b₀ :: suite) (tSu X.K X.mg (some i) su a cls d)) (r : ClD X hds cs l) :
      ClD X (.ExceptHandler (some (.Name x p1)) (some n) (b₀ :: suite) p2 :: hds) (⟨x, su⟩ :: cs) (⟨.ref C, some i, tSu X.K X.mg (some i) su⟩ :: l)
theorem ClD.ok {X : Cx} {hds : List ExceptHandler} {cs : List CHd} {l : List Dx.Cla} (r : ClD X hds cs l) : Dx.ClsOk X hds l := by
  induction r with
  | nil => exact .nil
  | plain hg hd hm hsu r ih => exact .plain ⟨hg, hd, .inl hm⟩ hsu ih
  | named hg hd hm hi hln hsu r ih => exact .named ⟨hg, hd, .inl hm⟩ hi hln hsu ih
theorem ClD.wish {X : Cx} {hds : List ExceptHandler} {cs : List CHd} {l : List Dx.Cla} (r : ClD X hds cs l) {Wout : WX} {D : L2.Ends} {rho : List Addr} {H : Hp} {h : Hs} {x : Xn} {cls : Value} {d : Option Addr} {up : List Str} (hr : HR X.K X.mg rho H h) (xr : XR X.K X.mg rho H x cls d)
    (tb : ∀ k ∈ cs, ∃ C1 C2 : Addr, X.mg x.cls = some (.ref C1) ∧ X.mg k.c = some (.ref C2) ∧ PySem.W.exmOne X.K (.ref C1) (.ref C2) = some (up.contains k.c))
    (p : PostV X.K X.mg rho H (fun _ _ _ => False) D.rt (match cs.find? fun k => up.contains k.c with | some k => k.su x h | none => .no)) : ∀ σ, Dx.wCl X.K Wout D l cls d σ H := by
  obtain ⟨C1, rfl, hC1⟩ := xr.cls
  induction r with
  | nil => exact p.elim
  | @plain y C su b₀ suite p1 p2 hds cs l hg hd hm hsu r ih =>
    intro σ
    obtain ⟨D1, D2, e1, e2, e3⟩ := tb _ List.mem_cons_self
    rw [hC1] at e1; cases e1
    rw [hm] at e2; cases e2
    refine ⟨_, e3, fun hb a ha => ⟨⟨σ, rfl⟩, x, rho, h, hr, xr, ?_⟩, fun hb => ih (fun k hk => tb k (List.mem_cons_of_mem _ hk)) ?_ σ⟩
    · rw [List.find?_cons_of_pos (p := fun k : CHd => up.contains k.c) (a := ⟨y, su⟩) hb] at p; exact p
    · rw [List.find?_cons_of_neg (p := fun k : CHd => up.contains k.c) (a := ⟨y, su⟩) (by simp only [hb]; decide)] at p; exact p
  | @named y m i C su b₀ suite p1 p2 hds cs l hg hd hm hi hln hsu r ih =>
    intro σ
    obtain ⟨D1, D2, e1, e2, e3⟩ := tb _ List.mem_cons_self
    rw [hC1] at e1; cases e1
    rw [hm] at e2; cases e2
    refine ⟨_, e3, fun hb a ha => ⟨⟨σ, rfl⟩, x, rho, h, hr, xr, ?_⟩, fun hb => ih (fun k hk => tb k (List.mem_cons_of_mem _ hk)) ?_ σ⟩
    · rw [List.find?_cons_of_pos (p := fun k : CHd => up.contains k.c) (a := ⟨y, su⟩) hb] at p; exact p
    · rw [List.find?_cons_of_neg (p := fun k : CHd => up.contains k.c) (a := ⟨y, su⟩) (by simp only [hb]; decide)] at p; exact p
/-- what a def makes of the lambda that it gets -/
def TTd (K : PySem.W.Frag) (mg : Str → Option Value) (F : LF → LF) : (XK → Hp → VK → Prop) → Hp → VK → Prop := fun tl H Q => ∃ n rho h L, HR K mg rho H h ∧
  (∀ (E : XK) (H' : Hp) (Q' : VK) (rho' : List Addr) (h' : Hs), Nx rho H rho' H' → HR K mg rho' H' h' → PostV K mg rho' H' E Q' (L n h') → tl E H' Q') ∧ PostV K mg rho H (fun _ _ _ => False) Q (F L n h)
section
variable {X : Cx} {Ng : List Str} {x a q fin : Str} {sg : Scope} {g : Addr} {cdg : Value} {j : Nat} {p1 p2 p3 p4 p5 p6 p7 : Pos} {h0 : ExceptHandler} {hds : List ExceptHandler} {cs : List CHd} {l : List Dx.Cla} {tb : List (Str × List Str)}
theorem gives_A (hN : Ng.Nodup) (h00 : ∀ f : Addr, (L2.start Ng [L2.V.ref f])[0]? = some (some (L2.V.ref f))) (ht : TbOk X.K X.mg tb cs)
    (cl : ∀ s H, ClD (L2.cxOf C8.CX0 X.prog X.w X.K X.mg X.base Ng x sg g cdg X.A X.stack s H C8.E0).nox (h0 :: hds) cs l) :
    LamX.GivesTo X Ng x sg g cdg [.Try [.Expr (.Call (.Name a p1) [] [] p2) p3] (h0 :: hds) [] [] p4, .Return (some (.Constant (.str fin) j p5)) p6] a q (TTd X.K X.mg (wordA tb cs (.str fin))) := by
  intro f c' s H Q tl act hc h
  obtain ⟨n, rho, hh, L, hr, htl, p⟩ := h
  generalize hZ : (L2.cxOf C8.CX0 X.prog X.w X.K X.mg X.base Ng x sg g cdg X.A X.stack s H C8.E0) = Z at act cl ⊢
  have eK : Z.K = X.K := by subst hZ; rfl
  have em : Z.mg = X.mg := by subst hZ; rfl
  have hst : Z.nox.stack = Z.nox.env :: Z.nox.outer := by subst hZ; rfl
  have hfr : Z.nox.env.frame = some Z.nox.env.locals := by subst hZ; rfl
  have hN2 : Z.nox.N.Nodup := by subst hZ; exact hN
  have CL := cl s H
  rw [hZ] at CL
  refine ⟨_, L2.pss_cons (Dx.try_any (X := Z.nox) (l := l) (tb := fun W D σ H => ∃ E : XK, (∀ cls d σ' H', E cls d H' → W cls d σ' H') ∧ σ[0]? = some (some (.ref f)) ∧ H c' = some (LamX.CodeO c' q) ∧ tl E H (fun _ H1 => D.nx σ H1))
    hst hfr hN2 LamX.takes0 (fun W pn xe tk _ => ⟨fun pins s' σ H' D I h' => ?_⟩) CL.ok) (L2.pss_one (L2.ps_ret L2.pe_str)), ?_⟩
  · obtain ⟨E, hW, h1, h2, h3⟩ := h'
    have hp := act W pn xe E p1 p2 tk hW
    have hi : swapsWith (.Call (.Name a p1) [] [] p2) none p3.line (Z.nox.tr pn xe).env = pure false := by rfl
    exact (L2.pss_one (L2.ps_expr (pos := p3) hp hi)).run pins s' σ H' D I ⟨h1, h2, h3⟩
  · refine ⟨fun cls d H' => ∀ σ', Dx.wCl Z.nox.K (fun _ _ _ _ => False) _ l cls d σ' H', fun cls d σ' H' z => z σ', h00 f, hc, htl _ _ _ rho hh Nx.refl hr ?_⟩
    revert p
    unfold wordA
    cases L n hh with
    | ok b h1 => intro p; exact fun v rho1 H1 n1 hr1 r1 => p (.str fin) rho1 H1 n1 hr1 (.str _)
    | no => intro p; exact p
    | ex y h1 =>
      intro p c d rho1 H1 n1 hr1 xr σ'
      dsimp only at p
      unfold pickC at p
      cases hu : tb.lookup y.cls with
      | none => rw [hu] at p; exact p.elim
      | some up =>
        rw [hu] at p
        dsimp only at p
        have e1 : Z.nox.K = X.K := eK
        have e2 : Z.nox.mg = X.mg := em
        refine CL.wish (h := h1) (x := y) (up := up) (rho := rho1) (by rw [e1, e2]; exact hr1) (by rw [e1, e2]; exact xr) (by rw [e1, e2]; exact ht _ _ hu) ?_ σ'
        rw [e1, e2]
        exact Post.mono hr1 n1 p (fun _ _ z => z) fun _ _ _ z => z
theorem gives_B (hN : Ng.Nodup) (h00 : ∀ f : Addr, (L2.start Ng [L2.V.ref f])[0]? = some (some (L2.V.ref f))) (ht : TbOk X.K X.mg tb cs) {x1 : Nat}
    (cl : ∀ s H, ClD (L2.cxOf C8.CX0 X.prog X.w X.K X.mg X.base Ng x sg g cdg X.A X.stack s H C8.E0).nox (h0 :: hds) cs l) :
    LamX.GivesTo X Ng x sg g cdg [.Try [.Return (some (.Tuple [.Constant (.str fin) j p5, .Call (.Name a p1) [] [] p2] x1 p6)) p3] (h0 :: hds) [] [] p4] a q (TTd X.K X.mg (metB tb cs fin)) := by
  intro f c' s H Q tl act hc h
  obtain ⟨n, rho, hh, L, hr, htl, p⟩ := h
  generalize hZ : (L2.cxOf C8.CX0 X.prog X.w X.K X.mg X.base Ng x sg g cdg X.A X.stack s H C8.E0) = Z at act cl ⊢
  have eK : Z.K = X.K := by subst hZ; rfl
  have em : Z.mg = X.mg := by subst hZ; rfl
  have hst : Z.nox.stack = Z.nox.env :: Z.nox.outer := by subst hZ; rfl
  have hfr : Z.nox.env.frame = some Z.nox.env.locals := by subst hZ; rfl
  have hN2 : Z.nox.N.Nodup := by subst hZ; exact hN
  have CL := cl s H
  rw [hZ] at CL
  refine ⟨_, L2.pss_one (Dx.try_any (X := Z.nox) (l := l) (tb := fun W D σ H => ∃ E : XK, (∀ cls d σ' H', E cls d H' → W cls d σ' H') ∧ σ[0]? = some (some (.ref f)) ∧ H c' = some (LamX.CodeO c' q) ∧ tl E H (fun v H1 => 2 ≤ sizeLine ∧ ∀ r, H1 r = none → D.rt (.ref r) (L2.upd H1 r (.tup [.str fin, v]))))
    hst hfr hN2 LamX.takes0 (fun W pn xe tk _ => ⟨fun pins s' σ H' D I h' => ?_⟩) CL.ok), ?_⟩
  · obtain ⟨E, hW, h1, h2, h3⟩ := h'
    have hp := act W pn xe E p1 p2 tk hW
    have hc1 : starEach [.Call (.Name a p1) [] [] p2] (Z.nox.tr pn xe).env = (false, eval (.Call (.Name a p1) [] [] p2) (Z.nox.tr pn xe).env) :: starEach [] (Z.nox.tr pn xe).env := by rfl
    have hq := L2.pss_one (L2.ps_ret (pos := p3) (L2.pe_tup (pos := p6) (x1 := x1) (L2.pa_cons (show PE (Z.nox.tr pn xe) (.Constant (.str fin) j p5) (L2.tC (.str fin)) from L2.pe_str) (L2.pa_cons hp L2.pa_nil hc1))))
    exact hq.run pins s' σ H' D I ⟨h1, h2, h3⟩
  · refine ⟨fun cls d H' => ∀ σ', Dx.wCl Z.nox.K (fun _ _ _ _ => False) _ l cls d σ' H', fun cls d σ' H' z => z σ', h00 f, hc, htl _ _ _ rho hh Nx.refl hr ?_⟩
    revert p
    unfold metB
    cases L n hh with
    | ok b h1 =>
      intro p v rho1 H1 n1 hr1 r1
      refine ⟨by rw [show sizeLine = 16777216 from sizeLine_eq]; decide, fun r hr0 => ?_⟩
      obtain ⟨n2, hr2⟩ := hr1.tup (u := .tup [.str fin, v]) hr0
      exact p (.ref r) rho1 _ (n1.trans hr1 n2) hr2 (.tup L2.upd_same (.cons (.str _) (.cons (r1.mono hr1 n2) .nil)))
    | no => intro p; exact p
    | ex y h1 =>
      intro p c d rho1 H1 n1 hr1 xr σ'
      dsimp only at p
      unfold pickC at p
      cases hu : tb.lookup y.cls with
      | none => rw [hu] at p; exact p.elim
      | some up =>
        rw [hu] at p
        dsimp only at p
        have e1 : Z.nox.K = X.K := eK
        have e2 : Z.nox.mg = X.mg := em
        refine CL.wish (h := h1) (x := y) (up := up) (rho := rho1) (by rw [e1, e2]; exact hr1) (by rw [e1, e2]; exact xr) (by rw [e1, e2]; exact ht _ _ hu) ?_ σ'
        rw [e1, e2]
        exact Post.mono hr1 n1 p (fun _ _ z => z) fun _ _ _ z => z
end
/-! ### suites -/
section
variable {X : Cx} {c f n : Str} {j j2 k : Nat} {i : Nat} {p1 p2 p3 p4 p5 : Pos} {x1 : Nat}
/-- return 'c' -/
theorem su_str {a : Addr} {oe : Obj} {cls : Value} {d : Option Addr} {pn : List (Addr × Obj)} : PSs (X.suite a ((a, oe) :: pn)) [.Return (some (.Constant (.str c) j p1)) p2] (tSu X.K X.mg none (fun _ h => .ok (.str c) h) a cls d) := by
  refine ⟨fun pins s σ H D I h => (L2.pss_one (L2.ps_ret L2.pe_str)).run pins s σ H D I ?_⟩
  obtain ⟨_, x, rho, hh, hr, xr, p⟩ := h
  exact p (.str c) rho H Nx.refl hr (.str _)
/-- return ('c',) -/
theorem su_tup {a : Addr} {oe : Obj} {cls : Value} {d : Option Addr} {pn : List (Addr × Obj)} : PSs (X.suite a ((a, oe) :: pn)) [.Return (some (.Tuple [.Constant (.str c) j p1] x1 p3)) p2] (tSu X.K X.mg none (fun _ h => .ok (.tup [.str c]) h) a cls d) := by
  refine ⟨fun pins s σ H D I h => (L2.pss_one (L2.ps_ret (L2.pe_tup (L2.pa_cons L2.pe_str L2.pa_nil)))).run pins s σ H D I ?_⟩
  obtain ⟨_, x, rho, hh, hr, xr, p⟩ := h
  refine ⟨by show 1 ≤ sizeLine; rw [sizeLine_eq]; decide, fun r hr0 => ?_⟩
  obtain ⟨n2, hr2⟩ := hr.tup (u := .tup [.str c]) hr0
  exact p (.ref r) rho _ n2 hr2 (.tup L2.upd_same (.cons (.str _) .nil))
/-- ('c', n.f), n the name of what is caught, of the class cn -/
def suFld (cn c f : Str) : Xn → Hs → R A := fun x h => if x.cls = cn then (match x.fld with
  | some (g, v) => if g = f then .ok (.tup [.str c, v]) h else .no
  | none => .no) else .no
theorem su_fld {cn : Str} {C a : Addr} {oe : Obj} {cls : Value} {d : Option Addr} {pn : List (Addr × Obj)} (hi : X.N[i]? = some n) (hv : L2.Vis X.env.scope n) (hm : X.mg cn = some (.ref C)) (T : L2.XfC X.K C) (hno : PySem.W.findIn X.K (.ref C) f = some none)
    (hz : L2.Zc cls d oe) (hf : ∃ vs, oe.data = .fields vs) (hd : (n == ("__debug__" : Str)) = false := by decide) (hcd : (n == ("__classdict__" : Str)) = false := by decide)
    (hb : attributeBase (.Name n p4) f X.env (eval (.Name n p4) X.env) = eval (.Name n p4) X.env := by rfl)
    (hc1 : starEach [.Attribute (.Name n p4) f p5] X.env = (false, eval (.Attribute (.Name n p4) f p5) X.env) :: starEach [] X.env := by rfl) :
    PSs (X.suite a ((a, oe) :: pn)) [.Return (some (.Tuple [.Constant (.str c) j p1, .Attribute (.Name n p4) f p5] x1 p3)) p2] (tSu X.K X.mg (some i) (suFld cn c f) a cls d) := by
  have hp := L2.pe_xf (X := X) (pos := p5) (pn := pn) (d := d) T hno hz hf (L2.pe_var (X := X.suite a ((a, oe) :: pn)) (pos := p4) (i := i) hi hv hd hcd) hb
  have hq := L2.pss_one (L2.ps_ret (pos := p2) (L2.pe_tup (pos := p3) (x1 := x1) (L2.pa_cons (show PE (X.suite a ((a, oe) :: pn)) (.Constant (.str c) j p1) (L2.tC (.str c)) from L2.pe_str) (L2.pa_cons hp L2.pa_nil hc1))))
  refine ⟨fun pins s σ H D I h => hq.run pins s σ H D I ?_⟩
  obtain ⟨⟨σ0, rfl⟩, x, rho, hh, hr, xr, p⟩ := h
  have hl : i < σ0.length := by
    have h1 := I.len
    have h2 := (List.getElem?_eq_some_iff.mp hi).1
    have h3 : (Dx.slotN (some i) a σ0).length = σ0.length := List.length_set
    have h4 : (X.suite a ((a, oe) :: pn)).N = X.N := rfl
    rw [h3, h4] at h1
    omega
  unfold suFld at p
  split at p
  · rename_i hc
    split at p
    · rename_i g v hfl
      split at p
      · rename_i hg
        subst hg
        obtain ⟨C1, ec, mc⟩ := xr.cls
        rw [hc, hm] at mc
        cases mc
        obtain ⟨dd, w, e1, e2, e3, e4⟩ := xr.some g v hfl
        refine ⟨.ref a, List.getElem?_set_self hl, rfl, ec, dd, [(g, w)], w, e1, e2, by simp [List.lookup], ?_⟩
        refine ⟨by show 2 ≤ sizeLine; rw [sizeLine_eq]; decide, fun r hr0 => ?_⟩
        obtain ⟨n2, hr2⟩ := hr.tup (u := .tup [.str c, w]) hr0
        exact p (.ref r) rho _ n2 hr2 (.tup L2.upd_same (.cons (.str _) (.cons (e4.mono hr n2) .nil)))
      · exact p.elim
    · exact p.elim
  · exact p.elim
end
/-! ### a lambda handed to such a def -/
/-- the def named x makes F of the lambda that it gets -/
def HasW (K : PySem.W.Frag) (mg : Str → Option Value) (x : Str) (F : LF → LF) : Prop := ∃ (g : Addr) (oc : Value) (od : Option Addr) (pg : Arguments) (bg : List Stmt) (sg : Scope) (dV kV doc pm : Value) (an : Option Addr) (cdv ct : Value) (osl : Array (Option Value)) (Ng : List Str) (a : Str),
  mg x = some (.ref g) ∧ PySem.W.keepIn K (.ref g) = true ∧ K.lookup g = some ⟨oc, od, .func (PySem.W.fnOf x x pg bg sg dV kV doc pm an cdv ct), osl⟩ ∧ PySem.W.codeIn K cdv x = true ∧ L2.Binds K (PySem.W.fnOf x x pg bg sg dV kV doc pm an cdv ct) [a] [] ∧
  L2.FnScope Ng [a] sg ∧ Ng[0]? = some a ∧ L2.Vis sg a ∧ (a == ("__debug__" : Str)) = false ∧ (a == ("__classdict__" : Str)) = false ∧
  ∀ X : Cx, X.K = K → X.mg = mg → X.A.guards = some [] → L2.Room 2 X.A → ∀ q, LamX.GivesTo X Ng x sg g cdv bg a q (TTd K mg F)
/-- the table of the def's code object is the abstract heap's thing at i -/
def lamD (P : Addr) (q : Str) (i : Nat) (F : LF → LF) (dE : DE) : DE := fun n s h => match h[i]? with
  | some (.tab P' q') => if P' = P ∧ q' = q then (F (fun n h => dE n s h) n h).calm else .no
  | _ => .no
/-- the tables in the abstract heap -/
def tabsOf : List Addr → Hs → List (Addr × Str)
  | a :: r, o :: h => match o with
    | .tab _ q => (a, q) :: tabsOf r h
    | _ => tabsOf r h
  | _, _ => []
theorem tabsOf_mem : ∀ {rho : List Addr} {h : Hs} {p : Addr × Str}, p ∈ tabsOf rho h → ∃ (i : Nat) (P : Addr), rho[i]? = some p.1 ∧ h[i]? = some (AO.tab P p.2)
  | [], h, p, hp => by simp [tabsOf] at hp
  | a :: r, [], p, hp => by simp [tabsOf] at hp
  | a :: r, o :: h, p, hp => by
    have rest : p ∈ tabsOf r h → ∃ (i : Nat) (P : Addr), (a :: r)[i]? = some p.1 ∧ (o :: h)[i]? = some (AO.tab P p.2) := fun z => by
      obtain ⟨i, P, e1, e2⟩ := tabsOf_mem z
      exact ⟨i + 1, P, by simpa using e1, by simpa using e2⟩
    cases o with
    | tab P q =>
      have hp : p ∈ (a, q) :: tabsOf r h := hp
      rcases List.mem_cons.mp hp with rfl | z
      · exact ⟨0, P, rfl, rfl⟩
      · exact rest z
    | lst xs => exact rest hp
    | dK xs => exact rest hp
    | dT xs => exact rest hp
theorem mem_tabsOf : ∀ {rho : List Addr} {h : Hs} {i : Nat} {a P : Addr} {q : Str}, rho[i]? = some a → h[i]? = some (AO.tab P q) → (a, q) ∈ tabsOf rho h
  | [], h, i, a, P, q, e1, e2 => by simp at e1
  | b :: r, [], i, a, P, q, e1, e2 => by simp at e2
  | b :: r, o :: h, 0, a, P, q, e1, e2 => by
    simp at e1 e2
    subst e1 e2
    exact List.mem_cons_self
  | b :: r, o :: h, i + 1, a, P, q, e1, e2 => by
    have z := mem_tabsOf (rho := r) (h := h) (i := i) (by simpa using e1) (by simpa using e2)
    cases o with
    | tab P q => exact List.mem_cons_of_mem _ z
    | lst xs => exact z
    | dK xs => exact z
    | dT xs => exact z
section
variable {K : PySem.W.Frag} {mg : Str → Option Value} {rho : List Addr} {H H1 : Hp} {h : Hs}
theorem HR.tabS (hr : HR K mg rho H h) : LamX.Tabs (tabsOf rho h) H := fun p hp => by
  obtain ⟨i, P, e1, e2⟩ := tabsOf_mem hp
  obtain ⟨u, hu, ro⟩ := hr.get i _ _ e1 e2
  cases ro with
  | tab t f => exact ⟨_, hu, t, f⟩
theorem HR.extN (hr : HR K mg rho H h) (e : LamX.ExtN H H1) (t : LamX.Tabs (tabsOf rho h) H1) : Nx rho H rho H1 ∧ HR K mg rho H1 h := by
  have n : Nx rho H rho H1 := ⟨fun _ _ z => z, fun b o q _ nt => e b o q nt, fun _ h1 h2 => absurd h1 h2, fun _ z => z⟩
  refine ⟨n, hr.len, hr.nd, fun i a o e1 e2 => ?_, hr.tabs⟩
  obtain ⟨u, hu, ro⟩ := hr.get i a o e1 e2
  cases ro with
  | lst r => exact ⟨_, e a _ hu (by intro _ z; cases z), .lst (r.mono hr n)⟩
  | dK r => exact ⟨_, e a _ hu (by intro _ z; cases z), .dK (r.mono hr n)⟩
  | dT r => exact ⟨_, e a _ hu (by intro _ z; cases z), .dT (r.mono hr n)⟩
  | @tab P q ps _ _ =>
    obtain ⟨ps', e', t', f'⟩ := t (a, q) (mem_tabsOf e1 e2)
    exact ⟨_, e', .tab t' f'⟩
end
section
variable {X : Cx} {W : WX} {x : Str} {F : LF → LF} {dE : DE} {c P : Addr} {k i : Nat} {params : Arguments} {body : Expr} {scope : Scope} {p lpos pos : Pos}
theorem d_lam (O : HasW X.K X.mg x F) (quiet : X.A.guards = some []) (TB : LamX.TabB X.base X.mg c P) (hcode : X.env.code = .ref c) (hr : L2.Room (k + 2) X.A) (hg : L2.Gl X x) (Ls : LamX.LamS X.env.scope scope) (hdef : defaultsOf params X.env = ([], []))
    (hbind : ∀ (q : Str) (cl : List (Str × Addr)) (pm cv ctv : Value), bindArgs (PySem.W.kla_fn "<lambda>" q params body scope cl pm cv ctv) ⟨[], []⟩ = pure [])
    (hbody : ∀ (A : Around) (outer : List Env) (s : Shared) (H : Hp) (E : XK) (f c' : Addr), L2.Room k (A.deeper (LamX.lamEnv X scope s.heap.objs.size f c')) → PEd (LamX.lamCx X A outer s H E scope f c') (fun cls d _ H => E cls d H) body dE)
    (hdb : (x == ("__debug__" : Str)) = false := by decide) : PEd X W (.Call (.Name x p) [.Lambda params body scope lpos] [] pos) (lamD P (X.env.qual ++ "<lambda>") i F dE) := by
  obtain ⟨g, oc, od, pg, bg, sg, dV, kV, doc, pm, an, cdv, ct, osl, Ng, a, hm, hk, lk, hcg, hb, Sg, hNg, hva, hda, hcda, hG⟩ := O
  refine ⟨fun pins s σ H Q I w => ?_⟩
  obtain ⟨n, rho, sl, h, hr0, l, p0⟩ := w
  unfold lamD at p0
  split at p0
  · rename_i P' q' ei
    split at p0
    · rename_i hP
      obtain ⟨rfl, rfl⟩ := hP
      have eP := hr0.tabs _ _ _ ei
      have key := LamX.pe_lamcall (X := X) (T := tabsOf rho h) (t := fun E => tE X.K X.mg (fun cls d _ H => E cls d H) dE) (p := p) (lpos := lpos) (pos := pos) hg hm hk lk hcg hb Sg hNg hva (hG X rfl rfl quiet (hr.mono (by omega)) _) TB hcode (mem_tabsOf eP ei)
        (fun p hp e => by
          obtain ⟨i2, P2, e1, e2⟩ := tabsOf_mem hp
          rw [e] at e1
          obtain ⟨l1, q1⟩ := List.getElem?_eq_some_iff.mp e1
          obtain ⟨l2, q2⟩ := List.getElem?_eq_some_iff.mp eP
          have : i2 = i := (List.getElem_inj hr0.nd).mp (q1.trans q2.symm)
          subst this
          rw [e2] at ei
          injection ei with ei
          injection ei with _ z) hr Ls hdef hbind hbody hdb hda hcda
      refine key.run pins s σ H Q I ⟨hr0.tabS, fun H1 en t1 => ?_⟩
      obtain ⟨n1, hr1⟩ := hr0.extN en t1
      refine ⟨n, rho, h, fun n h => dE n sl h, hr1, fun E H' Q' rho' h' n' hr' z => ⟨n, rho', sl, h', hr', (l.mono hr0 n1).mono hr1 n', z⟩, ?_⟩
      revert p0
      cases F (fun n h => dE n sl h) n h with
      | ok a h1 => intro p0; exact fun v rho2 H2 n2 hr2 r2 => p0 v rho2 H2 (n1.trans hr1 n2) hr2 r2
      | ex y h1 => intro p0; exact p0.elim
      | no => intro p0; exact p0.elim
    · exact p0.elim
  · exact p0.elim
end
end Dn

set_option maxHeartbeats 4000000
/-! Dx4: defs whose code object is told; is None; three at once; the end with tables. -/
namespace Dn
open PySem PySem.Spec PyProof.Rows
open L2 (PE PT PA PS PSs PG PGs PI Cx WX Takes HO Hp VK XK)
/-- as fn_ok, the def's code object at c -/
theorem fn_okC {P : Program} {w : World} {K : PySem.W.Frag} {mg : Str → Option Value} {base : Heap} {x qual : Str} {st : Stmt} {f c : Addr} {N ps : List Str} {k : Nat} {b : DS} {oc : Value} {od : Option Addr} {kV doc pm ct : Value} {an : Option Addr} {osl : Array (Option Value)}
    (lk : K.lookup f = some ⟨oc, od, .func (PySem.W.fnOf x qual (L2.defArgs st) (L2.defBody st) (L2.defScope st) .none kV doc pm an (.ref c) ct), osl⟩) (hcd : PySem.W.codeIn K (.ref c) qual = true) (S : L2.FnScope N ps (L2.defScope st)) (hl : ps.length ≤ N.length)
    (hb : ∀ (A : Around) (outer : List Env) (s : Shared) (H : Hp) (E : L2.XK), L2.Room k (A.deeper (PyProof.Rows.envOfC qual (L2.defScope st) s.heap.objs.size f (.ref c))) →
      PBd (L2.cxOf (L2.CX P w) P w K mg base N qual (L2.defScope st) f (.ref c) A outer s H E) (fun cls d _ H => E cls d H) (L2.defBody st) b) :
    FnD P w K mg base (k + 1) f (PySem.W.fnOf x qual (L2.defArgs st) (L2.defBody st) (L2.defScope st) .none kV doc pm an (.ref c) ct) ps (bodyD ps.length N.length b) := by
  refine L2.fn_of lk hcd S (fun vs H Q E h => h.1) fun A outer s H vs Q E hr h => ?_
  obtain ⟨hlen, n, rho, hh, as, hr', r, p⟩ := h
  refine ⟨_, hb A outer s H E hr, n, rho, as.map some ++ List.replicate (N.length - ps.length) none, hh, hr', ?_, ?_⟩
  · exact SlR.start r N N.length ps.length rfl (by rw [r.length]; exact hlen) hl
  · unfold bodyD at p
    split at p
    · revert p
      cases b n (as.map some ++ List.replicate (N.length - ps.length) none) hh with
      | nx s1 h1 => intro p; exact fun sg rho1 H1 n1 hr1 l1 => p .non rho1 H1 n1 hr1 .non
      | rt a h1 => intro p; exact fun v rho1 H1 n1 hr1 r1 => p v rho1 H1 n1 hr1 r1
      | ex x s1 h1 => intro p; exact fun c d sg rho1 H1 n1 hr1 l1 xr => p c d rho1 H1 n1 hr1 xr
      | bk s1 h1 => intro p; exact p.elim
      | ct s1 h1 => intro p; exact p.elim
      | no => intro p; exact p.elim
    · exact p.elim
theorem takes_lam {X : Cx} {A : Around} {outer : List Env} {s : Shared} {H : Hp} {E : XK} {scope : Scope} {f c' : Addr} : Takes (LamX.lamCx X A outer s H E scope f c') (fun cls d _ H => E cls d H) := L2.takes_of rfl rfl rfl rfl
/-! ### is None -/
def isNoA : A → Option Bool
  | .non => some true
  | .glo _ => none
  | _ => some false
def noneA (neg : Bool) : O2 := fun a b h => match b with
  | .non => match isNoA a with
    | some k => .ok (.bl (if neg then !k else k)) h
    | none => .no
  | _ => .no
theorem isNoA_get {K : PySem.W.Frag} {mg : Str → Option Value} {rho : List Addr} {H : Hp} {a : A} {v : L2.V} {k : Bool} (e : isNoA a = some k) (r : RV K mg rho H a v) : decide (v = .non) = k := by
  cases r with
  | non => cases e; rfl
  | glo h1 h2 => cases e
  | bl b => cases e; rfl
  | int i => cases e; rfl
  | str x => cases e; rfl
  | tup h1 h2 => cases e; rfl
  | rol h1 h2 => cases e; rfl
  | ref h1 => cases e; rfl
  | ty n => cases e; rfl
theorem rf_isn {K : PySem.W.Frag} {mg : Str → Option Value} : Rf2 K mg (fun x y H Q => y = .non ∧ Q (.bl (decide (x = .non))) H) (noneA false) := by
  intro rho H h a b x y W Q hr ra rb p
  unfold noneA at p
  split at p
  · cases rb
    split at p
    · rename_i k e
      exact ⟨rfl, by rw [isNoA_get e ra]; exact p.here hr (.bl _)⟩
    · exact p.elim
  · exact p.elim
theorem rf_notn {K : PySem.W.Frag} {mg : Str → Option Value} : Rf2 K mg (fun x y H Q => y = .non ∧ Q (.bl (!decide (x = .non))) H) (noneA true) := by
  intro rho H h a b x y W Q hr ra rb p
  unfold noneA at p
  split at p
  · cases rb
    split at p
    · rename_i k e
      exact ⟨rfl, by rw [isNoA_get e ra]; exact p.here hr (.bl _)⟩
    · exact p.elim
  · exact p.elim
/-! ### three at once -/
def par3D (i j l : Nat) (ft : DA) : DS := fun n s h => (ft n s h).then s fun as h1 => match as with
  | [a, b, c] => .nx (((s.set i (some a)).set j (some b)).set l (some c)) h1
  | _ => .no
theorem s_par3 {X : Cx} {W : WX} {a b c : Expr} {ft : DA} {i j l : Nat} {x y z : Str} {px py pz pt pos : Pos} {kt k2 pt2} (hc : X.calm = true) (hN : X.N.Nodup) (hi : X.N[i]? = some x) (hj : X.N[j]? = some y) (hl : X.N[l]? = some z) (hij : i ≠ j) (hil : i ≠ l) (hjl : j ≠ l)
    (hx : X.env.scope.names.lookup x = some .local) (hy : X.env.scope.names.lookup y = some .local) (hz : X.env.scope.names.lookup z = some .local) (ha : PAd X W [a, b, c] ft)
    (hw : swappedStores [.Tuple [.Name x px, .Name y py, .Name z pz] kt pt] (.Tuple [a, b, c] k2 pt2) X.env = pure (some [x, y, z]))
    (hs : swapsWithSole [.Tuple [.Name x px, .Name y py, .Name z pz] kt pt] (.Tuple [a, b, c] k2 pt2) pos.line X.env = pure false := by rfl) :
    PSd X W (.Assign [.Tuple [.Name x px, .Name y py, .Name z pz] kt pt] (.Tuple [a, b, c] k2 pt2) pos) (par3D i j l ft) := by
  refine ps_weak (L2.ps_par3 hc hN hi hj hl hij hil hjl hx hy hz ha hw hs) fun D sg H w => ?_
  obtain ⟨n, rho, s, h, hr, l', p⟩ := w
  refine ⟨n, rho, s, h, hr, l', PostS.then hr l' p fun as h1 vs rho1 H1 n1 hr1 r1 p1 => ?_⟩
  split at p1
  · cases r1 with
    | cons ra r2 => cases r2 with
      | cons rb r3 => cases r3 with
        | cons rc r4 =>
          cases r4
          exact ⟨_, _, _, rfl, p1 _ rho1 H1 Nx.refl hr1 ((((l'.mono hr n1).set ra i).set rb j).set rc l)⟩
  · exact p1.elim
/-! ### classes -/
theorem TbOk.nil {K : PySem.W.Frag} {mg : Str → Option Value} {cs : List CHd} : TbOk K mg [] cs := fun x up h => by cases h
theorem TbOk.cons {K : PySem.W.Frag} {mg : Str → Option Value} {cs : List CHd} {tb : List (Str × List Str)} {c : Str} {up : List Str} (h : ∀ k ∈ cs, ∃ C1 C2 : Addr, mg c = some (.ref C1) ∧ mg k.c = some (.ref C2) ∧ PySem.W.exmOne K (.ref C1) (.ref C2) = some (up.contains k.c)) (t : TbOk K mg tb cs) : TbOk K mg ((c, up) :: tb) cs := by
  intro x up' e
  unfold List.lookup at e
  split at e
  · rename_i hx
    rw [beq_iff_eq] at hx
    subst hx
    cases e
    exact h
  · exact t x up' e
theorem each_nil {α : Type} {P : α → Prop} : ∀ k ∈ ([] : List α), P k := fun k h => by cases h
theorem each_cons {α : Type} {P : α → Prop} {a : α} {l : List α} (h : P a) (t : ∀ k ∈ l, P k) : ∀ k ∈ a :: l, P k := fun k hk => by
  rcases List.mem_cons.mp hk with rfl | hk
  · exact h
  · exact t k hk
/-! ### the end -/
def tabsH (cs : List (Addr × Addr)) (qs : List Str) : Hs := List.zipWith (fun p q => AO.tab p.2 q) cs qs
def spLawT (K : PySem.W.Frag) (cs : List (Addr × Addr)) : L2.Sp := fun vs H Q _ => ∃ (a : Addr) (ns : List Int), vs = [.ref a] ∧ L2.SqL K H a (ns.map L2.V.int) ∧ ns.length ≤ 63 ∧ (∀ p ∈ cs, H p.2 = some (.tbl #[])) ∧ ∀ H', Q (.bl true) H'
theorem zip_get {cs : List (Addr × Addr)} {qs : List Str} {i : Nat} {P : Addr} {q : Str} (e : (tabsH cs qs)[i]? = some (.tab P q)) : (cs.map (·.2))[i]? = some P := by
  unfold tabsH at e
  rw [List.getElem?_zipWith] at e
  rw [List.getElem?_map]
  cases h1 : cs[i]? with
  | none => rw [h1] at e; simp at e
  | some p =>
    cases h2 : qs[i]? with
    | none => rw [h1, h2] at e; simp at e
    | some z => rw [h1, h2] at e; simp at e; simp [e.1]
theorem law_impT {K : PySem.W.Frag} {mg : Str → Option Value} {G : DF} {cs : List (Addr × Addr)} {qs : List Str} (hl : cs.length = qs.length) (nd : (cs.map (·.2)).Nodup)
    (T : ∀ ns : List Int, ns.length ≤ 63 → (∃ n h', G n [.rol (ns.map A.int)] (tabsH cs qs) = .ok (.bl true) h') ∧ ∃ n h', G n [.ref (tabsH cs qs).length] (tabsH cs qs ++ [.lst (ns.map A.int)]) = .ok (.bl true) h') : ∀ vs H Q E, spLawT K cs vs H Q E → spD K mg 1 G vs H Q E := by
  rintro vs H Q E ⟨a, ns, rfl, hs, hn, hT, q⟩
  have hlen : (tabsH cs qs).length = cs.length := by unfold tabsH; rw [List.length_zipWith]; omega
  have hr : HR K mg (cs.map (·.2)) H (tabsH cs qs) := by
    refine ⟨by rw [List.length_map, hlen], nd, fun i b o e1 e2 => ?_, fun i P q e => zip_get e⟩
    rw [List.getElem?_map] at e1
    cases h1 : cs[i]? with
    | none => rw [h1] at e1; cases e1
    | some p =>
      rw [h1] at e1
      cases e1
      have ho : ∃ q, o = .tab p.2 q := by
        unfold tabsH at e2
        rw [List.getElem?_zipWith, h1] at e2
        cases h2 : qs[i]? with
        | none => rw [h2] at e2; simp at e2
        | some z => rw [h2] at e2; simp at e2; exact ⟨z, e2.symm⟩
      obtain ⟨q, rfl⟩ := ho
      refine ⟨.tbl #[], hT p (List.mem_of_getElem? h1), .tab trivial fun pos cv hc => ?_⟩
      exact absurd hc (by simp [codeAmong])
  obtain ⟨⟨n1, h1, e1⟩, n2, h2, e2⟩ := T ns hn
  have out : ∀ {u : HO}, H a = some u → (∀ ps, u ≠ .tbl ps) → a ∉ cs.map (·.2) := fun {u} e nt m => by
    obtain ⟨p, hp, rfl⟩ := List.mem_map.mp m
    rw [hT p hp] at e
    cases e
    exact nt _ rfl
  have viaR : ((∃ ob, H a = some (.frz ob (.lst (ns.map L2.V.int))) ∧ a ∉ cs.map (·.2)) ∨ L2.SqL K (fun _ => none) a (ns.map L2.V.int)) → spD K mg 1 G [.ref a] H Q E := fun w => by
    refine ⟨rfl, n1, cs.map (·.2), tabsH cs qs, [.rol (ns.map A.int)], hr, .cons (.rol w (RVs.ints ns)) .nil, ?_⟩
    rw [e1]
    intro b rho' H' _ _ r
    cases r
    exact q H'
  rcases hs with (e | ⟨ob, e⟩) | e
  · have na := out e (by intro _ z; cases z)
    refine ⟨rfl, n2, cs.map (·.2) ++ [a], tabsH cs qs ++ [.lst (ns.map A.int)], [.ref (tabsH cs qs).length], hr.adopt na e (RVs.ints ns), .cons (.ref ?_) .nil, ?_⟩
    · rw [hlen, List.getElem?_append_right (by rw [List.length_map]; exact Nat.le_refl _), List.length_map, Nat.sub_self]; rfl
    · rw [e2]
      intro b rho' H' _ _ r
      cases r
      exact q H'
  · exact viaR (.inl ⟨ob, e, out e (by intro _ z; cases z)⟩)
  · exact viaR (.inr (.inr e))
end Dn
namespace LamX
open PySem PySem.Spec PyProof.Rows L2
/-- the end, the tables of the defs xs in hand -/
theorem walk_tabs {l : PySem.W.OpenLaw} {n k : Nat} {q : Program} {loose : List Str} {XP : (Str → Option Value) → Heap → Prop} {YP : World → Heap → Prop} {d : DefRec} {K : Params → PySem.W.Frag} {CX : World → CXT} {x : Str} {xs : List Str}
    (hn : l.most = some n) (hn2 : n ≤ sizeLine) (hdf : d.params.defaults = []) (hr : Room k callerA) (hrec : (xs.all fun x => ((recsOf q).find? fun e => e.name == x).isSome) = true) (hY : ∀ (w : World) (h : Heap), YP w h → (K w.params).In h)
    (F : ∀ (w : World) (mg : Str → Option Value) (fa : Addr) (h : Heap), YP w h → (K w.params).In h → h.Ns mainGlobals mg → mg d.name = some (.ref fa) → (∀ x ∈ xs, ∀ c P, PySem.W.tabIn (K w.params) x = some (c, P) → PySem.W.CodeHd h c P ∧ h.get? P = some { cls := .none, data := .fields #[] }) → LawAtS l w (K w.params) (CX w) k n x mg fa h)
    (hCX : ∀ (w : World) (H : Hp) (s : Shared) (e : Value) (s' : Shared), CX w [] H s (fun _ _ _ => False) e s' → False) :
    PySem.W.WalkO q loose XP YP l.row.toRowW d [] (fun f vs => PySem.call f vs) := by
  refine Att.attach_callB hn hdf fun w s₀ s₁ mg mb fa o pm cd doc a vs ns G Y ho hd hcd hmg hobj hints hlen hbits hg => ?_
  have KX := hY w _ Y
  have tabs : ∀ x ∈ xs, ∀ c P, PySem.W.tabIn (K w.params) x = some (c, P) → PySem.W.CodeHd s₁.heap c P ∧ s₁.heap.get? P = some { cls := .none, data := .fields #[] } := fun x hx c P ht => by
    have hz := List.all_eq_true.mp hrec x hx
    obtain ⟨d', hd'⟩ := Option.isSome_iff_exists.mp hz
    exact PySem.W.tab_of G.T KX hd' ht
  obtain ⟨fd, cs, sp, hT, nT, C, hb, hsp, hF⟩ := F w mg fa _ Y KX G.T.g hmg tabs
  exact law_callTs KX G.T.g G.T.b G.T.builtins G.T.nolimit hg hT nT C G.T.bmain hobj hints (Nat.le_trans hlen hn2) hr hF hb (fun H hH hS => hsp H a ns hlen hbits hH hS) fun H e s' => hCX w H s₁ e s'
end LamX

set_option maxHeartbeats 4000000
/-! Dx5: defs that ask what is under way (repr of a tuple): their promise at calls with nothing under way. -/
namespace Dn
open PySem PySem.Spec PyProof.Rows
open L2 (PE PT PA PS PSs PG PGs PI Cx WX Takes HO Hp VK XK)
/-- as L2.FnOk, where nothing is under way -/
structure FnG (P : Program) (w : World) (K : PySem.W.Frag) (mg : Str → Option Value) (base : Heap) (k : Nat) (f : Addr) (fd : FuncData) (ps : List Str) (sp : L2.Sp) : Prop where
  sizes : ∀ vs H Q E, sp vs H Q E → vs.length = ps.length
  go : ∀ (A : Around) (outer : List Env) (s : Shared) (H : Hp) (args : Args) (us : List Value) (vs : List L2.V) (Q : VK) (E : XK), A.guards = some [] → L2.Room k A → L2.Env0 P w K mg base A outer s H → BindsTo s fd args (ps.zip us) → L2.Vals vs us → sp vs H Q E →
    codeAny (model P w) A (.call (.ref f) args) (L2.CR (L2.CX P w) outer P w H s Q E) s
abbrev FnDG (P : Program) (w : World) (K : PySem.W.Frag) (mg : Str → Option Value) (base : Heap) (k : Nat) (f : Addr) (fd : FuncData) (ps : List Str) (G : DF) : Prop := FnG P w K mg base k f fd ps (spD K mg ps.length G)
theorem FnG.imp {P : Program} {w : World} {K : PySem.W.Frag} {mg : Str → Option Value} {base : Heap} {k : Nat} {f : Addr} {fd : FuncData} {ps : List Str} {sp sp' : L2.Sp} (F : FnG P w K mg base k f fd ps sp) (m : ∀ vs H Q E, sp' vs H Q E → sp vs H Q E) : FnG P w K mg base k f fd ps sp' :=
  ⟨fun vs H Q E q => F.sizes vs H Q E (m _ _ _ _ q), fun A o s H as us vs Q E quiet hr he hb hv hs => F.go A o s H as us vs Q E quiet hr he hb hv (m _ _ _ _ hs)⟩
theorem FnG.mono {P : Program} {w : World} {K : PySem.W.Frag} {mg : Str → Option Value} {base : Heap} {j k : Nat} {f : Addr} {fd : FuncData} {ps : List Str} {sp : L2.Sp} (F : FnG P w K mg base j f fd ps sp) (h : j ≤ k) : FnG P w K mg base k f fd ps sp :=
  ⟨F.sizes, fun A o s H as us vs Q E quiet hr => F.go A o s H as us vs Q E quiet (hr.mono h)⟩
def HasG (P : Program) (w : World) (K : PySem.W.Frag) (mg : Str → Option Value) (base : Heap) (k : Nat) (x : Str) (ps : List Str) (G : DF) : Prop :=
  ∃ (g : Addr) (fd : FuncData), FnDG P w K mg base k g fd ps G ∧ mg x = some (.ref g) ∧ PySem.W.keepIn K (.ref g) = true ∧ L2.Binds K fd ps []
/-- as fn_okC, nothing under way -/
theorem fn_okG {P : Program} {w : World} {K : PySem.W.Frag} {mg : Str → Option Value} {base : Heap} {x qual : Str} {st : Stmt} {f c : Addr} {N ps : List Str} {k : Nat} {b : DS} {oc : Value} {od : Option Addr} {kV doc pm ct : Value} {an : Option Addr} {osl : Array (Option Value)}
    (lk : K.lookup f = some ⟨oc, od, .func (PySem.W.fnOf x qual (L2.defArgs st) (L2.defBody st) (L2.defScope st) .none kV doc pm an (.ref c) ct), osl⟩) (hcd : PySem.W.codeIn K (.ref c) qual = true) (S : L2.FnScope N ps (L2.defScope st)) (hl : ps.length ≤ N.length)
    (hb : ∀ (A : Around) (outer : List Env) (s : Shared) (H : Hp) (E : L2.XK), A.guards = some [] → L2.Room k (A.deeper (PyProof.Rows.envOfC qual (L2.defScope st) s.heap.objs.size f (.ref c))) →
      PBd (L2.cxOf (L2.CX P w) P w K mg base N qual (L2.defScope st) f (.ref c) A outer s H E) (fun cls d _ H => E cls d H) (L2.defBody st) b) :
    FnDG P w K mg base (k + 1) f (PySem.W.fnOf x qual (L2.defArgs st) (L2.defBody st) (L2.defScope st) .none kV doc pm an (.ref c) ct) ps (bodyD ps.length N.length b) := by
  refine ⟨fun vs H Q E h => h.1, fun A outer s H args us vs Q E quiet hr e0 hbi rv h => LamX.run_ofS lk hcd S hr e0 hbi rv h.1 fun hr' => ?_⟩
  obtain ⟨hlen, n, rho, hh, as, hr', r, p⟩ := h
  refine ⟨_, hb A outer s H E quiet (by assumption), n, rho, as.map some ++ List.replicate (N.length - ps.length) none, hh, hr', ?_, ?_⟩
  · exact SlR.start r N N.length ps.length rfl (by rw [r.length]; exact hlen) hl
  · unfold bodyD at p
    split at p
    · revert p
      cases b n (as.map some ++ List.replicate (N.length - ps.length) none) hh with
      | nx s1 h1 => intro p; exact fun sg rho1 H1 n1 hr1 l1 => p .non rho1 H1 n1 hr1 .non
      | rt a h1 => intro p; exact fun v rho1 H1 n1 hr1 r1 => p v rho1 H1 n1 hr1 r1
      | ex x s1 h1 => intro p; exact fun c d sg rho1 H1 n1 hr1 l1 xr => p c d rho1 H1 n1 hr1 xr
      | bk s1 h1 => intro p; exact p.elim
      | ct s1 h1 => intro p; exact p.elim
      | no => intro p; exact p.elim
    · exact p.elim
section
variable {X : Cx} {W : WX} {e : Expr} {es : List Expr} {f : DA} {p pos : Pos}
theorem d_callG {k : Nat} {g : Addr} {fd : FuncData} {ps : List Str} {G : DF} {x : Str} (F : FnDG X.prog X.w X.K X.mg X.base k g fd ps G) (quiet : X.A.guards = some []) (hr : L2.Room k X.A) (hg : L2.Gl X x) (hm : X.mg x = some (.ref g)) (hk : PySem.W.keepIn X.K (.ref g) = true)
    (hb : L2.Binds X.K fd ps []) (tk : Takes X W) (ha : PAd X W (e :: es) f) (hdb : (x == ("__debug__" : Str)) = false := by decide)
    (he : starEach (e :: es) X.env = (false, eval e X.env) :: starEach es X.env := by rfl) (hpl : (backTo pos (starEach es X.env)).any (·.1) = false := by rfl) : PEd X W (.Call (.Name x p) (e :: es) [] pos) (callD ps.length G f) := by
  refine ⟨fun pins s sg H Q I w => ?_⟩
  obtain ⟨n, rho, sl, h, hr', l, p0⟩ := w
  refine wpAny_Call_Name_kw (L2.ld_glob I hg hm ?_ hdb)
  have first := ha.run pos pins s sg H (fun vs H1 => spD X.K X.mg ps.length G vs H1 Q (L2.WE W sg)) I ?_
  · refine PySem.W.callWith_K (h₀ := X.base) I.ok.mod.kin hk (L2.thn first fun us s1 hq => ?_) he hpl
    obtain ⟨vs, H1, I1, rv, sp⟩ := hq
    refine ⟨I1.kIn, ?_⟩
    have nargs : us.length = ps.length := rv.length ▸ sp.1
    have bound := hb s1 us I1.kIn (by rw [List.append_nil]; exact nargs)
    rw [List.append_nil] at bound
    have ran := F.go X.A X.stack s1 H1 ⟨us, []⟩ us vs Q (L2.WE W sg) quiet hr I1.env0 bound rv sp
    refine wpAny_call (codeAny_mono ran fun res s2 got => ?_)
    match res, got with
    | .error e', got => exact L2.passAt tk sg pins H1 s1 e' s2 I1 got
    | .ok (.ret u), got => exact I1.after got
  · refine ⟨n, rho, sl, h, hr', l, Post.bind p0 fun as h1 vs rho1 H1 n1 hr1 r1 p1 => ?_⟩
    split at p1
    · rename_i hz
      exact ⟨by rw [← r1.length]; exact hz, n, rho1, h1, as, hr1, r1, p1⟩
    · exact p1.elim
end
end Dn

set_option maxHeartbeats 4000000
/-! Dx6: the end of a law whose def is promised only where nothing is under way. -/
namespace Dn
open PySem PySem.Spec PyProof.Rows
open L2 (PE PT PA PS PSs PG PGs PI Cx WX Takes HO Hp VK XK)
abbrev tableO : Obj := { cls := .none, data := .fields #[] }
abbrev scriptO (vs : List Value) : Obj := { cls := .type "list", data := .seq vs.toArray }
/-- what is tracked as the law starts: the tables; the script, unless it is written out -/
def startHp (K : PySem.W.Frag) (tabs : List Addr) (a : Addr) (vs : List Value) (ns : List Int) : Hp := fun b =>
  if b ∈ tabs then some (.tbl #[]) else if b = a ∧ K.lookup a = none then some (.frz (scriptO vs) (.lst (ns.map L2.V.int))) else none
section
variable {K : PySem.W.Frag} {tabs : List Addr} {a b : Addr} {vs : List Value} {ns : List Int} {u : HO}
theorem start_tab (h : b ∈ tabs) : startHp K tabs a vs ns b = some (.tbl #[]) := if_pos h
theorem start_inv (e : startHp K tabs a vs ns b = some u) : (b ∈ tabs ∧ u = .tbl #[]) ∨ (b ∉ tabs ∧ b = a ∧ K.lookup a = none ∧ u = .frz (scriptO vs) (.lst (ns.map L2.V.int))) := by
  unfold startHp at e
  by_cases h1 : b ∈ tabs
  · rw [if_pos h1] at e
    exact .inl ⟨h1, (Option.some.inj e).symm⟩
  · rw [if_neg h1] at e
    by_cases h2 : b = a ∧ K.lookup a = none
    · rw [if_pos h2] at e
      exact .inr ⟨h1, h2.1, h2.2, (Option.some.inj e).symm⟩
    · rw [if_neg h2] at e
      cases e
theorem start_free {h : Heap} {o : Obj} (hT : ∀ p ∈ tabs, h.get? p = some tableO) (hA : h.get? a = some (scriptO vs)) (e : h.get? b = some o) (n1 : o.data ≠ .fields #[]) (n2 : o.data ≠ .seq vs.toArray) : startHp K tabs a vs ns b = none := by
  cases q : startHp K tabs a vs ns b with
  | none => rfl
  | some u =>
    rcases start_inv q with ⟨m, _⟩ | ⟨_, m, _⟩
    · rw [hT b m] at e
      cases e
      exact absurd rfl n1
    · rw [m, hA] at e
      cases e
      exact absurd rfl n2
end
section
variable {P : Program} {w : World} {K : PySem.W.Frag} {mg mb : Str → Option Value} {k : Nat} {fa a : Addr} {cs : List (Addr × Addr)} {fd : FuncData} {x : Str} {sp : L2.Sp} {s0 : Shared} {vs : List Value} {ns : List Int}
theorem end_quiet (hK : K.In s0.heap) (hG : s0.heap.Ns mainGlobals mg) (hB : s0.heap.Ns builtinsNs mb) (hB2 : ∀ x : Str, x ≠ "__name__" → mb x = bootBuiltins x) (hL : s0.heap.NoLimit) (hgens : s0.gens = #[])
    (hT : ∀ p ∈ cs, s0.heap.get? p.2 = some tableO) (nT : ∀ p ∈ cs, K.lookup p.2 = none) (hC : ∀ p ∈ cs, PySem.W.CodeHd s0.heap p.1 p.2)
    (hM : ∃ (bm : Addr) (ob : Obj), mg "__builtins__" = some (.ref bm) ∧ bm ≠ builtinsNs ∧ s0.heap.get? bm = some ob ∧ ob.cls = .type "module" ∧ ob.dict = some builtinsNs ∧ ob.data = .plain)
    (hA : s0.heap.get? a = some (scriptO vs)) (hI : IntsAre vs ns) (hlen : ns.length ≤ sizeLine) (room : L2.Room k callerA)
    (F : ∀ base : Heap, K.In base → base.Ns mainGlobals mg → (∀ p ∈ cs, LamX.TabB base mg p.1 p.2) → FnG P w K mg base k fa fd [x] sp) (hbind : ∀ (s : Shared) (u : Value), BindsTo s fd ⟨[u], []⟩ [(x, u)])
    (hsp : ∀ H : Hp, (∀ p ∈ cs, H p.2 = some (.tbl #[])) → L2.SqL K H a (ns.map L2.V.int) → sp [.ref a] H (fun v _ => v = .bl true) fun _ _ _ => False)
    (hCX : ∀ H e s', L2.CX P w [] H s0 (fun _ _ _ => False) e s' → False) :
    codeAny (model P w) callerA (.call (.ref fa) ⟨[.ref a], []⟩) (fun r s' => r = .ok (.ret (.bool true)) ∧ OldK s0.heap s'.heap ∧ s'.os = s0.os ∧ AllBare s'.gens) s0 := by
  have related := L2.vals_ints hI
  have same := hI.length
  have hT' : ∀ b ∈ cs.map (·.2), s0.heap.get? b = some tableO := by
    intro b hb
    obtain ⟨p, hp, rfl⟩ := List.mem_map.mp hb
    exact hT p hp
  have nT' : ∀ b ∈ cs.map (·.2), K.lookup b = none := by
    intro b hb
    obtain ⟨p, hp, rfl⟩ := List.mem_map.mp hb
    exact nT p hp
  have aNot : a ∉ cs.map (·.2) := fun m => by
    have two := (hT' a m).symm.trans hA
    have := congrArg Obj.data (Option.some.inj two)
    cases this
  generalize hH : startHp K (cs.map (·.2)) a vs ns = H
  have inv : ∀ {b u}, H b = some u → (b ∈ cs.map (·.2) ∧ u = .tbl #[]) ∨ (b ∉ cs.map (·.2) ∧ b = a ∧ K.lookup a = none ∧ u = .frz (scriptO vs) (.lst (ns.map L2.V.int))) := fun e => start_inv (by rw [hH]; exact e)
  have tabH : ∀ p ∈ cs, H p.2 = some (.tbl #[]) := fun p hp => by rw [← hH]; exact start_tab (List.mem_map.mpr ⟨p, hp, rfl⟩)
  have free : ∀ {b o}, s0.heap.get? b = some o → o.data ≠ .fields #[] → o.data ≠ .seq vs.toArray → H b = none := fun e n1 n2 => by rw [← hH]; exact start_free hT' hA e n1 n2
  -- the written part, the names: not tracked
  have into : ∀ {b o}, s0.heap.get? b = some o → H b = none → (L2.hidT s0.heap H).get? b = some o := fun e n => L2.hidT_get e n
  have nsIn : ∀ {b : Addr} {m : Str → Option Value}, s0.heap.Ns b m → (L2.hidT s0.heap H).Ns b m := fun hn => by
    obtain ⟨o, es, ep, e, d, rest⟩ := hn
    exact ⟨o, es, ep, into e (free e (by rw [d]; intro z; cases z) (by rw [d]; intro z; cases z)), d, rest⟩
  have kIn : K.In (L2.hidT s0.heap H) := fun b o e => into (hK b o e) (by
    cases q : H b with
    | none => rfl
    | some u =>
      rcases inv q with ⟨m, _⟩ | ⟨_, m, nk, _⟩
      · rw [nT' b m] at e; cases e
      · rw [m, nk] at e; cases e)
  have md : L2.Mod K mg (L2.hidT s0.heap H) := by
    obtain ⟨mc, c1, c2⟩ := hL
    exact ⟨kIn, nsIn hG, ⟨mb, nsIn hB, hB2⟩, mc, nsIn c1, c2⟩
  have tbs : ∀ p ∈ cs, LamX.TabB (L2.hidT s0.heap H) mg p.1 p.2 := by
    intro p hp
    have atP := hT p hp
    refine ⟨?_, ?_, ?_⟩
    · obtain ⟨o, us, file, tf, flags, tg, inF, text, tt, e1, r1, r2, r3, rest⟩ := hC p hp
      refine ⟨o, us, file, tf, flags, tg, inF, text, tt, into e1 (free e1 ?_ ?_), r1, r2, r3, rest⟩
      · rw [r2]; intro z; cases z; simp at r3
      · rw [r2]; intro z; cases z
    · obtain ⟨bm, ob, b1, b2, b3, b4, b5, b6⟩ := hM
      refine ⟨bm, ob, b1, b2, ?_, ?_, into b3 (free b3 (by rw [b6]; intro z; cases z) (by rw [b6]; intro z; cases z)), b4, b5, b6⟩
      · rintro rfl
        obtain ⟨o, es, ep, e, d, _⟩ := hG
        have := congrArg Obj.data (Option.some.inj (e.symm.trans b3))
        rw [d, b6] at this
        cases this
      · rintro rfl
        have := congrArg Obj.data (Option.some.inj (atP.symm.trans b3))
        rw [b6] at this
        cases this
    · intro z
      obtain ⟨o, es, ep, e, d, _⟩ := hG
      rw [z] at e
      have := congrArg Obj.data (Option.some.inj (atP.symm.trans e))
      rw [d] at this
      cases this
  have hok : L2.HOk P w H s0.heap := by
    intro b u e
    rcases inv e with ⟨m, rfl⟩ | ⟨_, rfl, _, rfl⟩
    · exact hT' b m
    · exact ⟨hA, by rw [List.length_map]; exact hlen, vs, _, related, hA⟩
  have seq : L2.SqL K H a (ns.map L2.V.int) := by
    cases hk : K.lookup a with
    | none => exact .inl (.inr ⟨scriptO vs, by rw [← hH]; unfold startHp; rw [if_neg aNot, if_pos ⟨rfl, hk⟩]⟩)
    | some o =>
      have := (hK a o hk).symm.trans hA
      cases this
      exact .inr ⟨_, vs.toArray, _, hk, rfl, rfl, rfl, by rw [List.size_toArray, same]; exact hlen, by simpa using related⟩
  have env : L2.Env0 P w K mg (L2.hidT s0.heap H) callerA [] s0 H := by
    refine ⟨rfl, md, fun b o e => L2.of_hidT e, Nat.le_of_eq (L2.hidT_size _ _), trivial, ?_, hok, .of_eq hgens⟩
    intro b hb
    exact absurd (show b ∈ ([] : List Addr) from hb) (by simp)
  have ran := (F _ kIn (nsIn hG) tbs).go callerA [] s0 H ⟨[.ref a], []⟩ [.ref a] [.ref a] _ _ rfl room env (hbind s0 (.ref a)) (.cons rfl .nil) (hsp H tabH seq)
  refine codeAny_mono ran fun r s' got => ?_
  match r, got with
  | .error e, got => exact (hCX H e s' got).elim
  | .ok (.ret u), got =>
    obtain ⟨v, H', os, bare, un, hok', ru, rfl⟩ := got
    have hu : u = Value.bool true := ru
    subst hu
    have kept : ∀ b o, b ∉ cs.map (·.2) → s0.heap.get? b = some o → s'.heap.get? b = some o := by
      intro b o nb e
      cases q : H b with
      | none => exact un.keep b o e q (fun z => absurd (show b ∈ ([] : List Addr) from z) (by simp)) (by simp)
      | some u =>
        rcases inv q with ⟨m, _⟩ | ⟨_, m, _, hu⟩
        · exact absurd m nb
        · subst hu
          have later := hok' b _ (un.frzs b _ _ q)
          have now := hok b _ q
          rw [now.1] at e
          cases e
          exact later.1
    have grown : ∀ p ∈ cs, ∃ more : Array Value, s'.heap.get? p.2 = some { cls := .none, data := .fields more } := by
      intro p hp
      obtain ⟨more, z⟩ := un.tbls p.2 #[] (tabH p hp)
      exact ⟨_, hok' p.2 _ z⟩
    refine ⟨rfl, ⟨fun b o e => ?_, fun b o e => ?_⟩, os, bare⟩
    · by_cases hb : b ∈ cs.map (·.2)
      · obtain ⟨p, hp, rfl⟩ := List.mem_map.mp hb
        obtain ⟨more, hm⟩ := grown p hp
        have := (hT p hp).symm.trans e
        cases this
        exact .inr (.inl ⟨((hC p hp).tab (hT p hp)).isCodeTable, rfl, #[], more, rfl, by rw [Array.empty_append]; exact hm⟩)
      · exact .inl (kept b o hb e)
    · by_cases hb : b ∈ cs.map (·.2)
      · obtain ⟨p, hp, rfl⟩ := List.mem_map.mp hb
        obtain ⟨more, hm⟩ := grown p hp
        exact ⟨_, hm⟩
      · exact ⟨o, kept b o hb e⟩
end
/-- what is known of the law's def at the head's heap h -/
def QuietAt (l : PySem.W.OpenLaw) (w : World) (K : PySem.W.Frag) (k n : Nat) (x : Str) (mg : Str → Option Value) (fa : Addr) (h : Heap) : Prop :=
  ∃ (fd : FuncData) (cs : List (Addr × Addr)), (∀ p ∈ cs, h.get? p.2 = some tableO) ∧ (∀ p ∈ cs, K.lookup p.2 = none) ∧ (∀ p ∈ cs, PySem.W.CodeHd h p.1 p.2) ∧ (∀ (s : Shared) (u : Value), BindsTo s fd ⟨[u], []⟩ [(x, u)]) ∧ n = 63 ∧
    ∀ base : Heap, K.In base → base.Ns mainGlobals mg → (∀ p ∈ cs, LamX.TabB base mg p.1 p.2) → FnG l.prog w K mg base k fa fd [x] (spLawT K cs)
/-- the end, the tables of the defs xs in hand, nothing under way -/
theorem walk_quiet {l : PySem.W.OpenLaw} {n k : Nat} {q : Program} {loose : List Str} {XP : (Str → Option Value) → Heap → Prop} {YP : World → Heap → Prop} {d : DefRec} {K : Params → PySem.W.Frag} {x : Str} {xs : List Str}
    (hn : l.most = some n) (hn2 : n ≤ sizeLine) (hdf : d.params.defaults = []) (room : L2.Room k callerA) (hrec : (xs.all fun x => ((recsOf q).find? fun e => e.name == x).isSome) = true) (hY : ∀ (w : World) (h : Heap), YP w h → (K w.params).In h)
    (F : ∀ (w : World) (mg : Str → Option Value) (fa : Addr) (h : Heap), YP w h → (K w.params).In h → h.Ns mainGlobals mg → mg d.name = some (.ref fa) → (∀ x ∈ xs, ∀ c P, PySem.W.tabIn (K w.params) x = some (c, P) → PySem.W.CodeHd h c P ∧ h.get? P = some { cls := .none, data := .fields #[] }) → QuietAt l w (K w.params) k n x mg fa h) :
    PySem.W.WalkO q loose XP YP l.row.toRowW d [] (fun f vs => PySem.call f vs) := by
  refine Att.attach_callB hn hdf fun w s₀ s₁ mg mb fa o pm cd doc a vs ns G Y ho hd hcd hmg hobj hints hlen hbits hg => ?_
  have inK := hY w _ Y
  have known : ∀ x ∈ xs, ∀ c P, PySem.W.tabIn (K w.params) x = some (c, P) → PySem.W.CodeHd s₁.heap c P ∧ s₁.heap.get? P = some { cls := .none, data := .fields #[] } := fun x hx c P ht => by
    obtain ⟨d', hd'⟩ := Option.isSome_iff_exists.mp (List.all_eq_true.mp hrec x hx)
    exact PySem.W.tab_of G.T inK hd' ht
  obtain ⟨fd, cs, tabs, fresh, heads, binds, rfl, ok⟩ := F w mg fa _ Y inK G.T.g hmg known
  exact end_quiet inK G.T.g G.T.b G.T.builtins G.T.nolimit hg tabs fresh heads G.T.bmain hobj hints (Nat.le_trans hlen hn2) room ok binds (fun H tab seq => ⟨a, ns, rfl, seq, hlen, tab, fun _ => rfl⟩) fun H e s' z => Dn.cx_end z
end Dn

set_option maxHeartbeats 4000000
/-! Dx7: repr of flat things and of tuples of them; isinstance against a class of the program. -/
namespace Dn
open PySem PySem.Spec PyProof.Rows
open L2 (PE PT PA PS PSs PG PGs PI Cx WX Takes HO Hp VK XK)
/-- the text of a flat thing -/
def showF : A → Option Str
  | .non => some "None"
  | .bl b => some (if b then "True" else "False")
  | .int i => if i.natAbs.log2 < 1920 then some (toString i) else none
  | .str x => if (reprText x).length ≤ 1000 then some (reprText x) else none
  | _ => none
def showFs : List A → Option (List Str)
  | [] => some []
  | a :: as => (showF a).bind fun t => (showFs as).map fun ts => t :: ts
def showA : A → Option Str
  | .tup xs => match showFs xs with
    | some ts => if (tupleText ts).length ≤ 10000 then some (tupleText ts) else none
    | none => none
  | a => showF a
def bRepr : List A → Hs → R A := fun as h => match as with
  | [a] => match showA a with
    | some t => .ok (.str t) h
    | none => .no
  | _ => .no
/-- what is asked of the thing -/
def rRepr (K : PySem.W.Frag) (mg : Str → Option Value) : List L2.V → Hp → VK → Prop := fun xs H Q => ∃ v rho a t, xs = [v] ∧ RV K mg rho H a v ∧ showA a = some t ∧ Q (.str t) H
theorem reprIs_flat {P : Program} {w : World} {K : PySem.W.Frag} {mg : Str → Option Value} {rho : List Addr} {H : Hp} {a : A} {v : L2.V} {u : Value} {t : Str} (e : showF a = some t) (r : RV K mg rho H a v) (ru : L2.RelV v u) : ReprIs P w u t := by
  cases r with
  | non => cases (show u = Value.none from ru); cases e; exact ReprIs.none
  | bl b => cases (show u = Value.bool b from ru); cases e; exact ReprIs.bool b
  | int i =>
    obtain ⟨tk, rfl⟩ := (show ∃ t, u = Value.int i t from ru)
    replace e : (if i.natAbs.log2 < 1920 then some (Str.ofString (toString i)) else none) = some t := e
    split at e
    · rename_i h
      cases e
      exact ReprIs.int tk h
    · cases e
  | str x =>
    obtain ⟨tk, rfl⟩ := (show ∃ t, u = Value.str x t from ru)
    replace e : (if (reprText x).length ≤ 1000 then some (reprText x) else none) = some t := e
    split at e
    · rename_i h
      cases e
      exact ReprIs.str x tk (by rw [sizeLine_eq]; omega)
    · cases e
  | tup h1 h2 => cases e
  | rol h1 h2 => cases e
  | ref h1 => cases e
  | glo h1 h2 => cases e
  | ty n => cases e
theorem reprAll_flat {P : Program} {w : World} {K : PySem.W.Frag} {mg : Str → Option Value} {rho : List Addr} {H : Hp} : ∀ {xs : List A} {vs : List L2.V} {us : List Value} {ts : List Str}, showFs xs = some ts → RVs K mg rho H xs vs → L2.Vals vs us → ReprAll P w us ts
  | [], _, _, _, e, r, ru => by
    cases r
    cases ru
    cases e
    exact .nil
  | a :: as, _, _, _, e, r, ru => by
    cases r with
    | cons r1 r2 =>
      cases ru with
      | cons u1 u2 =>
        unfold showFs at e
        cases e1 : showF a with
        | none => rw [e1] at e; cases e
        | some t =>
          rw [e1] at e
          cases e2 : showFs as with
          | none => rw [e2] at e; cases e
          | some ts =>
            rw [e2] at e
            cases e
            exact .cons (reprIs_flat e1 r1 u1) (reprAll_flat e2 r2 u2)
theorem call_reprA {X : Cx} (quiet : X.A.guards = some []) (hu : X.A.units + 64 < cLine) : L2.CallR X (.builtin "repr") (rRepr X.K X.mg) := by
  intro pins s σ H xs us Q I r h
  obtain ⟨v, rho, a, t, rfl, rv, e, q⟩ := h
  obtain ⟨u, rfl, ru⟩ := L2.vals1 r
  have done : ∀ (tk : Tok) (t' : Nat), L2.EP X pins σ Q (.str t tk) { s with toks := t' } := fun tk t' => ⟨.str t, H, I.tok _, ⟨tk, rfl⟩, q⟩
  cases rv with
  | non => cases (show u = Value.none from ru); cases e; exact P.repr_of_none (done _ _)
  | bl b => cases (show u = Value.bool b from ru); cases e; exact P.repr_of_bool (done _ _)
  | int i =>
    obtain ⟨tk, rfl⟩ := (show ∃ t, u = Value.int i t from ru)
    replace e : (if i.natAbs.log2 < 1920 then some (Str.ofString (toString i)) else none) = some t := e
    split at e
    · rename_i h
      cases e
      exact P.repr_of_int h (done _ _)
    · cases e
  | str x =>
    obtain ⟨tk, rfl⟩ := (show ∃ t, u = Value.str x t from ru)
    replace e : (if (reprText x).length ≤ 1000 then some (reprText x) else none) = some t := e
    split at e
    · rename_i h
      cases e
      exact P.repr_of_str (done _ _) (by rw [sizeLine_eq]; omega)
    · cases e
  | @tup b xs vs h1 h2 =>
    cases (show u = Value.ref b from ru)
    replace e : (match showFs xs with | some ts => if (tupleText ts).length ≤ 10000 then some (tupleText ts) else none | none => none) = some t := e
    cases e2 : showFs xs with
    | none => rw [e2] at e; cases e
    | some ts =>
      rw [e2] at e
      dsimp only at e
      split at e
      · rename_i hz
        cases e
        obtain ⟨its, rr, ⟨⟨cls, dd, data, sl⟩, ho, hc, n, hd⟩, hs⟩ := I.tuple (.of h1)
        simp only at hc hd
        subst hc hd
        refine call_repr_slot (by omega) ⟨_, ho, rfl⟩ F.slot_tuple_repr ?_
        exact call_tuple_repr (g := []) ⟨_, ho, rfl⟩ (show X.A.in1.guards = some [] from quiet) (fun c hc => by cases hc) ho rfl (by rw [List.toList_toArray]; exact reprAll_flat e2 h2 rr) (fun u tk => ⟨_, _, rfl, done u tk⟩) (by rw [sizeLine_eq]; omega)
      · cases e
  | rol h1 h2 => cases e
  | ref h1 => cases e
  | glo h1 h2 => cases e
  | ty n => cases e
section
variable {K : PySem.W.Frag} {mg : Str → Option Value}
theorem rf_repr : RfL K mg (rRepr K mg) bRepr := by
  intro rho H h as xs W Q hr ra p
  unfold bRepr at p
  split at p
  · rename_i a
    cases ra with
    | cons r1 r2 =>
      cases r2
      split at p
      · rename_i t e
        exact ⟨_, rho, a, t, rfl, r1, e, p.here hr (.str _)⟩
      · exact p.elim
  · exact p.elim
/-! ### isinstance against a class of the program -/
def kinds7 : List String := ["NoneType", "bool", "int", "str", "tuple", "list", "dict"]
/-- none of the built-in kinds is one -/
def NoneOf (K : PySem.W.Frag) (mg : Str → Option Value) (c : Str) : Prop := ∃ C : Addr, mg c = some (.ref C) ∧ ∀ t ∈ kinds7, PySem.W.kitOne K (.type t) (.ref C) = some false
def bIsiG (c : Str) : List A → Hs → R A := fun as h => match as with
  | [a, .glo c'] => if c' = c then (match tyName h a with
    | some t => if t ∈ kinds7 then .ok (.bl false) h else .no
    | none => .no) else .no
  | _ => .no
theorem rf_isiG {c : Str} (O : NoneOf K mg c) : RfL K mg (L2.rIsi K) (bIsiG c) := by
  obtain ⟨C, hC, hk⟩ := O
  intro rho H h as xs W Q hr ra p
  unfold bIsiG at p
  split at p
  · rename_i a c'
    obtain ⟨v, u, rfl, rv, ru⟩ := ra.two
    split at p
    · rename_i hc
      subst hc
      cases ru with
      | glo m r =>
        rw [hC] at m
        cases m
        split at p
        · rename_i t e
          split at p
          · rename_i ht
            have hu : u = .ref C := by
              cases u with
              | ref q => exact congrArg L2.V.ref (Value.ref.inj (show Value.ref C = Value.ref q from r)).symm
              | _ => first | cases (show Value.ref C = _ from r) | (obtain ⟨_, z⟩ := r; cases z)
            subst hu
            exact ⟨v, .ref C, .type t, .ref C, false, rfl, .own C, tyName_get hr e rv, hk t ht, p.here hr (.bl _)⟩
          · exact p.elim
        · exact p.elim
    · exact p.elim
  · exact p.elim
end
/-! ### a suite: 'c' + repr(n.f) -/
def suRep (cn c f : Str) : Xn → Hs → R A := fun x h => if x.cls = cn then (match x.fld with
  | some (g, v) => if g = f then (match showA v with
    | some t => if c.length + t.length ≤ sizeLine then .ok (.str (c ++ t)) h else .no
    | none => .no) else .no
  | none => .no) else .no
section
variable {X : Cx} {c f n : Str} {j j2 k : Nat} {i : Nat} {p1 p2 p3 p4 p5 p6 p7 : Pos}
theorem su_rep {cn : Str} {C a : Addr} {oe : Obj} {cls : Value} {d : Option Addr} {pn : List (Addr × Obj)} (hi : X.N[i]? = some n) (hv : L2.Vis X.env.scope n) (hm : X.mg cn = some (.ref C)) (T : L2.XfC X.K C) (hno : PySem.W.findIn X.K (.ref C) f = some none)
    (hz : L2.Zc cls d oe) (hf : ∃ vs, oe.data = .fields vs) (quiet : X.A.guards = some []) (room : X.A.units + 64 < cLine) (hgr : L2.Gl X ("repr" : Str)) (hmr : X.mg ("repr" : Str) = none) (hd : (n == ("__debug__" : Str)) = false := by decide) (hcd : (n == ("__classdict__" : Str)) = false := by decide)
    (hb : attributeBase (.Name n p4) f X.env (eval (.Name n p4) X.env) = eval (.Name n p4) X.env := by rfl)
    (hc1 : starEach [.Attribute (.Name n p4) f p5] X.env = (false, eval (.Attribute (.Name n p4) f p5) X.env) :: starEach [] X.env := by rfl) :
    PSs (X.suite a ((a, oe) :: pn)) [.Return (some (.BinOp (.Constant (.str c) j p1) .Add (.Call (.Name "repr" p6) [.Attribute (.Name n p4) f p5] [] p7) p3)) p2] (tSu X.K X.mg (some i) (suRep cn c f) a cls d) := by
  have hp := L2.pe_xf (X := X) (pos := p5) (pn := pn) (d := d) T hno hz hf (L2.pe_var (X := X.suite a ((a, oe) :: pn)) (pos := p4) (i := i) hi hv hd hcd) hb
  have hcall := L2.pe_callB (X := X.suite a ((a, oe) :: pn)) (p := p6) (pos := p7) (call_reprA (X := X.suite a ((a, oe) :: pn)) quiet room) hgr hmr rfl (L2.pa_cons hp L2.pa_nil hc1)
  have hq := L2.pss_one (L2.ps_ret (pos := p2) (L2.pe_op (pos := p3) L2.op_add_str (show PE (X.suite a ((a, oe) :: pn)) (.Constant (.str c) j p1) (L2.tC (.str c)) from L2.pe_str) hcall))
  refine ⟨fun pins s σ H D I h => hq.run pins s σ H D I ?_⟩
  obtain ⟨⟨σ0, rfl⟩, x, rho, hh, hr, xr, p⟩ := h
  have hl : i < σ0.length := by
    have h1 := I.len
    have h2 := (List.getElem?_eq_some_iff.mp hi).1
    have h3 : (Dx.slotN (some i) a σ0).length = σ0.length := List.length_set
    have h4 : (X.suite a ((a, oe) :: pn)).N = X.N := rfl
    rw [h3, h4] at h1
    omega
  unfold suRep at p
  split at p
  · rename_i hc
    split at p
    · rename_i g v hfl
      split at p
      · rename_i hg
        subst hg
        split at p
        · rename_i t ht
          split at p
          · rename_i hlen
            obtain ⟨C1, ec, mc⟩ := xr.cls
            rw [hc, hm] at mc
            cases mc
            obtain ⟨dd, w, e1, e2, e3, e4⟩ := xr.some g v hfl
            refine ⟨.ref a, List.getElem?_set_self hl, rfl, ec, dd, [(g, w)], w, e1, e2, by simp [List.lookup], ?_⟩
            exact ⟨w, rho, v, t, rfl, e4, ht, c, t, rfl, rfl, hlen, p (.str (c ++ t)) rho H Nx.refl hr (.str _)⟩
          · exact p.elim
        · exact p.elim
      · exact p.elim
    · exact p.elim
  · exact p.elim
end
end Dn

set_option maxHeartbeats 4000000
/-! Dx8: list(f(..)), f a generator def that raises before it hands out anything. -/
namespace Dn
open PySem PySem.Spec PyProof.Rows
open L2 (PE PT PA PS PSs PG PGs PI Cx WX Takes HO Hp VK XK)
/-- what a call of such a def ends in: b, its first statement, raises -/
def firstD (np nn : Nat) (b : DS) : DF := fun n as h => if as.length = np then (match b n (as.map some ++ List.replicate (nn - np) none) h with
  | .ex x _ h1 => .ex x h1
  | _ => .no) else .no
def spG (K : PySem.W.Frag) (mg : Str → Option Value) (np : Nat) (G : DF) : L2.SpG := fun vs H _ E => vs.length = np ∧ ∃ n rho h as, HR K mg rho H h ∧ RVs K mg rho H as vs ∧ PostV K mg rho H E (fun _ _ => False) (G n as h)
theorem gen_ok {P : Program} {w : World} {K : PySem.W.Frag} {mg : Str → Option Value} {base : Heap} {x qual : Str} {params : Arguments} {scope : Scope} {st1 : Stmt} {rest : List Stmt} {f : Addr} {cdv : Value} {N ps : List Str} {k : Nat} {b : DS} {oc : Value} {od : Option Addr} {dV kV doc pm ct : Value} {an : Option Addr} {osl : Array (Option Value)}
    (lk : K.lookup f = some ⟨oc, od, .func (PySem.W.fnOf x qual params (st1 :: rest) scope dV kV doc pm an cdv ct), osl⟩) (hcd : PySem.W.codeIn K cdv qual = true) (S : L2.GScope N ps scope) (hl : ps.length ≤ N.length)
    (hb : ∀ (A : Around) (outer : List Env) (s : Shared) (H : Hp) (E : L2.XK) (pn : List (Addr × Obj)), L2.Room k (A.deeper (PyProof.Rows.envOfC qual scope s.heap.objs.size f cdv)) →
      PSd (L2.gcxOf P w K mg base N qual scope f cdv A outer s H E pn) (fun cls d _ H => E cls d H) st1 b) :
    L2.GFn P w K mg base (k + 1) f (PySem.W.fnOf x qual params (st1 :: rest) scope dV kV doc pm an cdv ct) ps (spG K mg ps.length (firstD ps.length N.length b)) := by
  refine L2.gfn_of lk hcd S (fun vs H Q E h => h.1) fun A outer s H vs Q E pn hr h => ?_
  obtain ⟨hlen, n, rho, hh, as, hr', r, p⟩ := h
  refine ⟨_, L2.gss_cons (L2.gs_ps (hb A outer s H E pn hr)) (L2.gss_pss (t := fun _ _ _ => False) ⟨fun _ _ _ _ _ _ z => z.elim⟩), n, rho, as.map some ++ List.replicate (N.length - ps.length) none, hh, hr', ?_, ?_⟩
  · exact SlR.start r N N.length ps.length rfl (by rw [r.length]; exact hlen) hl
  · unfold firstD at p
    split at p
    · revert p
      cases b n (as.map some ++ List.replicate (N.length - ps.length) none) hh with
      | nx s1 h1 => intro p; exact p.elim
      | rt a h1 => intro p; exact p.elim
      | ex x s1 h1 => intro p; exact fun c d sg rho1 H1 n1 hr1 l1 xr => p c d rho1 H1 n1 hr1 xr
      | bk s1 h1 => intro p; exact p.elim
      | ct s1 h1 => intro p; exact p.elim
      | no => intro p; exact p.elim
    · exact p.elim
def HasV (P : Program) (w : World) (K : PySem.W.Frag) (mg : Str → Option Value) (base : Heap) (k : Nat) (x : Str) (ps : List Str) (G : DF) : Prop :=
  ∃ (g : Addr) (fd : FuncData), L2.GFn P w K mg base k g fd ps (spG K mg ps.length G) ∧ mg x = some (.ref g) ∧ PySem.W.keepIn K (.ref g) = true ∧ L2.Binds K fd ps []
/-- list(f(..)): the exception of class c leaves -/
def genD (c : Str) (np : Nat) (G : DF) (f : DA) : DE := fun n s h => (f n s h).bind fun as h1 => if as.length = np then (match G n as h1 with
  | .ex x h2 => if x.cls = c then .ex x h2 else .no
  | _ => .no) else .no
def NoStopC (K : PySem.W.Frag) (mg : Str → Option Value) (c : Str) : Prop := ∃ C : Addr, mg c = some (.ref C) ∧ PySem.W.subIn K (.ref C) (.type "StopIteration") = some false
section
variable {X : Cx} {E0 : XK} {e : Expr} {es : List Expr} {f : DA} {p pos p2 pos2 : Pos}
theorem d_listG {k : Nat} {g : Addr} {fd : FuncData} {ps : List Str} {G : DF} {x c : Str} (F : L2.GFn X.prog X.w X.K X.mg X.base k g fd ps (spG X.K X.mg ps.length G)) (NS : NoStopC X.K X.mg c) (hr : L2.Room (k + 3) X.A) (hg : L2.Gl X x) (hm : X.mg x = some (.ref g)) (hk : PySem.W.keepIn X.K (.ref g) = true)
    (hb : L2.Binds X.K fd ps []) (tk : Takes X (fun cls d _ H => E0 cls d H)) (ha : PAd X (fun cls d _ H => E0 cls d H) (e :: es) f) (hgl : L2.Gl X ("list" : Str)) (hml : X.mg ("list" : Str) = none) (hdb : (x == ("__debug__" : Str)) = false := by decide)
    (he : starEach (e :: es) X.env = (false, eval e X.env) :: starEach es X.env := by rfl) (hpl : (backTo pos (starEach es X.env)).any (·.1) = false := by rfl)
    (he2 : starEach [.Call (.Name x p) (e :: es) [] pos] X.env = (false, eval (.Call (.Name x p) (e :: es) [] pos) X.env) :: starEach [] X.env := by rfl) :
    PEd X (fun cls d _ H => E0 cls d H) (.Call (.Name "list" p2) [.Call (.Name x p) (e :: es) [] pos] [] pos2) (genD c ps.length G f) := by
  obtain ⟨C, hC, hS⟩ := NS
  have key := L2.pe_listG (X := X) (pos := pos2) (p := p2) (E := fun cls d H => E0 cls d H ∧ PySem.W.subIn X.K cls (.type "StopIteration") = some false)
    (L2.pgen_call (p := p) (pos' := pos) (dvs := []) (ds := []) F (hr.mono (by omega)) hg hm hk hb .nil ha hdb he hpl)
    (fun pins σ H s e' s' I z => tk e' s' (L2.XE.of_call I (fun _ _ _ q => q.1) z)) (fun cls d H q => q.2) hr hgl hml rfl (by decide) (by decide) he2
  refine pe_weak key fun sg H Q w => ?_
  obtain ⟨n, rho, s, h, hr', l, p⟩ := w
  refine ⟨n, rho, s, h, hr', l, Post.bind p fun as h1 vs rho1 H1 n1 hr1 r1 p1 => ?_⟩
  split at p1
  · rename_i hz
    refine ⟨by rw [List.append_nil, ← r1.length]; exact hz, n, rho1, h1, as, hr1, by rw [List.append_nil]; exact r1, ?_⟩
    revert p1
    cases G n as h1 with
    | ok a h2 => intro p1; exact p1.elim
    | no => intro p1; exact p1.elim
    | ex y h2 =>
      intro p1
      dsimp only at p1
      split at p1
      · rename_i hc
        refine fun cl d rho2 H2 n2 hr2 xr => ⟨p1 cl d rho2 H2 n2 hr2 xr, ?_⟩
        obtain ⟨C1, ec, mc⟩ := xr.cls
        rw [hc, hC] at mc
        cases mc
        rw [ec]
        exact hS
      · exact p1.elim
  · exact p1.elim
end
end Dn

set_option maxHeartbeats 4000000
namespace Dn
open PySem PySem.Spec PyProof.Rows
open L2 (PE PT PA PS PSs PG PGs PI Cx WX Takes HO Hp VK)
def topS (i : Nat) : Stmt := PySem.Challenge.pw_movemarks_k87_errors_of_texts.main.body.getD i (.Pass ⟨0, 0, 0, 0⟩)

/-! _law_word -/
abbrev s__law_word : Stmt := topS 78
def cs__law_word : List CHd := [⟨"InvalidMove", fun _ h => .ok (.str "move") h⟩, ⟨"InvalidGroup", fun _ h => .ok (.str "group") h⟩, ⟨"InvalidRow", fun _ h => .ok (.str "row") h⟩, ⟨"InvalidKinds", fun _ h => .ok (.str "kinds") h⟩, ⟨"ParseError", suRep "ParseError" "parse " "index"⟩, ⟨"InvalidNumber", suRep "InvalidNumber" "number " "given"⟩]
def tb__law_word : List (Str × List Str) := [("InvalidGroup", ["InvalidGroup", "MarkError", "ValueError", "Exception", "BaseException", "object"]), ("InvalidKinds", ["InvalidKinds", "MarkError", "ValueError", "Exception", "BaseException", "object"]), ("InvalidMove", ["InvalidMove", "MarkError", "ValueError", "Exception", "BaseException", "object"]), ("InvalidNumber", ["InvalidNumber", "IndexError", "LookupError", "Exception", "BaseException", "object"]), ("InvalidRow", ["InvalidRow", "MarkError", "ValueError", "Exception", "BaseException", "object"]), ("ParseError", ["ParseError", "MarkError", "ValueError", "Exception", "BaseException", "object"])]
def F__law_word : LF → LF := wordA tb__law_word cs__law_word (.str "fine")
theorem sc__law_word : L2.FnScope ["_law_call", "error"] ["_law_call"] (L2.defScope s__law_word) := ⟨rfl, rfl, rfl, by decide +kernel, rfl, by decide +kernel, by decide +kernel⟩
/-! require_text -/
abbrev s_require_text : Stmt := topS 61
/-- 0 value -/
def d_require_text : DS :=
  (ifD (orT (notT (testD (cbD bIsi (consD (varD 0) (consD (conD (.ty "str")) nilD))))) (testD (bin2 (cmpI qgt) (cbD bLen (consD (varD 0) nilD)) (conD (.int 3000))))) (raiseVD "ParseError" "index" (conD (.int 0))) nextD)
def f_require_text : DF := bodyD 1 1 d_require_text
theorem sc_require_text : L2.FnScope ["value"] ["value"] (L2.defScope s_require_text) := ⟨rfl, rfl, rfl, by decide +kernel, rfl, by decide +kernel, by decide +kernel⟩
/-! plain_at -/
abbrev s_plain_at : Stmt := topS 62
/-- 0 text, 1 index, 2 end, 3 most -/
def d_plain_at : DS :=
  (seqD (parD 2 3 (consD (varD 1) (consD (bin2 addA (varD 1) (ifE (testD (bin2 (eqA false) (sliceD (varD 0) (someD (varD 1)) (someD (bin2 addA (varD 1) (conD (.int 1))))) (conD (.str "0")))) (conD (.int 1)) (conD (.int 60)))) nilD)))
  (seqD (whileD (andT (testD (bin2 (cmpI qlt) (varD 2) (cbD bMin (consD (cbD bLen (consD (varD 0) nilD)) (consD (varD 3) nilD))))) (testD (bin2 (inA false) (bin2 ixA (varD 0) (varD 2)) (conD (.str "0123456789"))))) (augD 2 (intA addI) (conD (.int 1))))
  (seqD (ifD (testD (bin2 (eqA false) (varD 2) (varD 1))) (raiseVD "ParseError" "index" (varD 1)) nextD)
  (retD (tupD (consD (cbD bInt (consD (sliceD (varD 0) (someD (varD 1)) (someD (varD 2))) nilD)) (consD (varD 2) nilD)))))))
def f_plain_at : DF := bodyD 2 4 d_plain_at
theorem sc_plain_at : L2.FnScope ["text", "index", "end", "most"] ["text", "index"] (L2.defScope s_plain_at) := ⟨rfl, rfl, rfl, by decide +kernel, rfl, by decide +kernel, by decide +kernel⟩
/-! signed_at -/
abbrev s_signed_at : Stmt := topS 63
/-- 0 text, 1 index, 2 number, 3 end -/
def d_signed_at : DS :=
  (seqD (ifD (testD (bin2 (eqA true) (sliceD (varD 0) (someD (varD 1)) (someD (bin2 addA (varD 1) (conD (.int 1))))) (conD (.str "-")))) (retD (callD 2 f_plain_at (consD (varD 0) (consD (varD 1) nilD)))) nextD)
  (seqD (ifD (testD (bin2 (eqA false) (sliceD (varD 0) (someD (bin2 addA (varD 1) (conD (.int 1)))) (someD (bin2 addA (varD 1) (conD (.int 2))))) (conD (.str "0")))) (raiseVD "ParseError" "index" (bin2 addA (varD 1) (conD (.int 1)))) nextD)
  (seqD (asgD (callD 2 f_plain_at (consD (varD 0) (consD (bin2 addA (varD 1) (conD (.int 1))) nilD))) (tupG 2 (consG (nameG 2) (consG (nameG 3) nilG))))
  (retD (tupD (consD (un1 negA (varD 2)) (consD (varD 3) nilD)))))))
def f_signed_at : DF := bodyD 2 4 d_signed_at
theorem sc_signed_at : L2.FnScope ["text", "index", "number", "end"] ["text", "index"] (L2.defScope s_signed_at) := ⟨rfl, rfl, rfl, by decide +kernel, rfl, by decide +kernel, by decide +kernel⟩
/-! require_end -/
abbrev s_require_end : Stmt := topS 66
/-- 0 text, 1 index -/
def d_require_end : DS :=
  (ifD (testD (bin2 (cmpI qlt) (varD 1) (cbD bLen (consD (varD 0) nilD)))) (raiseVD "ParseError" "index" (varD 1)) nextD)
def f_require_end : DF := bodyD 2 2 d_require_end
theorem sc_require_end : L2.FnScope ["text", "index"] ["text", "index"] (L2.defScope s_require_end) := ⟨rfl, rfl, rfl, by decide +kernel, rfl, by decide +kernel, by decide +kernel⟩
/-! read_row -/
abbrev s_read_row : Stmt := topS 70
/-- 0 text, 1 number, 2 index, 3 found -/
def d_read_row : DS :=
  (seqD (dropD (callD 1 f_require_text (consD (varD 0) nilD)))
  (seqD (asgD (callD 2 f_signed_at (consD (varD 0) (consD (conD (.int 0)) nilD))) (tupG 2 (consG (nameG 1) (consG (nameG 2) nilG))))
  (seqD (setD 3 (lstD (consD (varD 1) nilD)))
  (seqD (whileD (testD (bin2 (eqA false) (sliceD (varD 0) (someD (varD 2)) (someD (bin2 addA (varD 2) (conD (.int 1))))) (conD (.str ",")))) (seqD (asgD (callD 2 f_signed_at (consD (varD 0) (consD (bin2 addA (varD 2) (conD (.int 1))) nilD))) (tupG 2 (consG (nameG 1) (consG (nameG 2) nilG))))
  (dropD (methD "list" mAppend (varD 3) (consD (varD 1) nilD)))))
  (seqD (dropD (callD 2 f_require_end (consD (varD 0) (consD (varD 2) nilD))))
  (seqD (ifD (testD (bin2 (cmpI qgt) (cbD bLen (consD (varD 3) nilD)) (conD (.int 60)))) (raiseD "InvalidRow") nextD)
  (retD (cbD bTuple (consD (varD 3) nilD)))))))))
def f_read_row : DF := bodyD 1 4 d_read_row
theorem sc_read_row : L2.FnScope ["text", "number", "index", "found"] ["text"] (L2.defScope s_read_row) := ⟨rfl, rfl, rfl, by decide +kernel, rfl, by decide +kernel, by decide +kernel⟩
/-! is_plain -/
abbrev s_is_plain : Stmt := topS 12
/-- 0 value -/
def d_is_plain : DS :=
  (retD (andV (cbD bIsi (consD (varD 0) (consD (conD (.ty "int")) nilD))) (notV (cbD bIsi (consD (varD 0) (consD (conD (.ty "bool")) nilD))))))
def f_is_plain : DF := bodyD 1 1 d_is_plain
theorem sc_is_plain : L2.FnScope ["value"] ["value"] (L2.defScope s_is_plain) := ⟨rfl, rfl, rfl, by decide +kernel, rfl, by decide +kernel, by decide +kernel⟩
/-! is_within -/
abbrev s_is_within : Stmt := topS 14
/-- 0 value, 1 low, 2 high -/
def d_is_within : DS :=
  (retD (andV (callD 1 f_is_plain (consD (varD 0) nilD)) (chain3 (cmpI qle) (cmpI qle) (varD 1) (varD 0) (varD 2))))
def f_is_within : DF := bodyD 3 3 d_is_within
theorem sc_is_within : L2.FnScope ["value", "low", "high"] ["value", "low", "high"] (L2.defScope s_is_within) := ⟨rfl, rfl, rfl, by decide +kernel, rfl, by decide +kernel, by decide +kernel⟩
/-! require_within -/
abbrev s_require_within : Stmt := topS 15
/-- 0 value, 1 low, 2 high -/
def d_require_within : DS :=
  (ifD (notT (testD (callD 3 f_is_within (consD (varD 0) (consD (varD 1) (consD (varD 2) nilD)))))) (raiseVD "InvalidNumber" "given" (varD 0)) nextD)
def f_require_within : DF := bodyD 3 3 d_require_within
theorem sc_require_within : L2.FnScope ["value", "low", "high"] ["value", "low", "high"] (L2.defScope s_require_within) := ⟨rfl, rfl, rfl, by decide +kernel, rfl, by decide +kernel, by decide +kernel⟩
/-! is_integer -/
abbrev s_is_integer : Stmt := topS 13
/-- 0 value -/
def d_is_integer : DS :=
  (retD (andV (callD 1 f_is_plain (consD (varD 0) nilD)) (chain3 (cmpI qlt) (cmpI qlt) (un1 negA (conD (.int 1000000000000000000000000000000000000000000000000000000000000))) (varD 0) (conD (.int 1000000000000000000000000000000000000000000000000000000000000)))))
def f_is_integer : DF := bodyD 1 1 d_is_integer
theorem sc_is_integer : L2.FnScope ["value"] ["value"] (L2.defScope s_is_integer) := ⟨rfl, rfl, rfl, by decide +kernel, rfl, by decide +kernel, by decide +kernel⟩
/-! are_integers -/
abbrev s_are_integers : Stmt := topS 54
/-- 0 value, 1 one -/
def d_are_integers : DS :=
  (retD (andV (cbD bIsi (consD (varD 0) (consD (conD (.ty "tuple")) nilD))) (andV (chain3 (cmpI qle) (cmpI qle) (conD (.int 1)) (cbD bLen (consD (varD 0) nilD)) (conD (.int 60))) (cbD bAll (consD (lcD (itSeq (varD 0)) (nameG 1) yesT (callD 1 f_is_integer (consD (varD 1) nilD)) [1]) nilD)))))
def f_are_integers : DF := bodyD 1 2 d_are_integers
theorem sc_are_integers : L2.FnScope ["value", "one"] ["value"] (L2.defScope s_are_integers) := ⟨rfl, rfl, rfl, by decide +kernel, rfl, by decide +kernel, by decide +kernel⟩
/-! require_sign -/
abbrev s_require_sign : Stmt := topS 60
/-- 0 text, 1 index, 2 sign -/
def d_require_sign : DS :=
  (seqD (ifD (testD (bin2 (eqA true) (sliceD (varD 0) (someD (varD 1)) (someD (bin2 addA (varD 1) (conD (.int 1))))) (varD 2))) (raiseVD "ParseError" "index" (varD 1)) nextD)
  (retD (bin2 addA (varD 1) (conD (.int 1)))))
def f_require_sign : DF := bodyD 3 3 d_require_sign
theorem sc_require_sign : L2.FnScope ["text", "index", "sign"] ["text", "index", "sign"] (L2.defScope s_require_sign) := ⟨rfl, rfl, rfl, by decide +kernel, rfl, by decide +kernel, by decide +kernel⟩
/-! term_at -/
abbrev s_term_at : Stmt := topS 71
/-- 0 text, 1 index, 2 number, 3 place -/
def d_term_at : DS :=
  (seqD (setD 2 (conD (.int 1)))
  (seqD (ifD (testD (bin2 (eqA true) (sliceD (varD 0) (someD (varD 1)) (someD (bin2 addA (varD 1) (conD (.int 1))))) (conD (.str "[")))) (asgD (callD 2 f_plain_at (consD (varD 0) (consD (varD 1) nilD))) (tupG 2 (consG (nameG 2) (consG (nameG 1) nilG)))) nextD)
  (seqD (asgD (callD 2 f_plain_at (consD (varD 0) (consD (callD 3 f_require_sign (consD (varD 0) (consD (varD 1) (consD (conD (.str "[")) nilD)))) nilD))) (tupG 2 (consG (nameG 3) (consG (nameG 1) nilG))))
  (retD (tupD (consD (tupD (consD (varD 2) (consD (varD 3) nilD))) (consD (callD 3 f_require_sign (consD (varD 0) (consD (varD 1) (consD (conD (.str "]")) nilD)))) nilD)))))))
def f_term_at : DF := bodyD 2 4 d_term_at
theorem sc_term_at : L2.FnScope ["text", "index", "number", "place"] ["text", "index"] (L2.defScope s_term_at) := ⟨rfl, rfl, rfl, by decide +kernel, rfl, by decide +kernel, by decide +kernel⟩
/-! terms_at -/
abbrev s_terms_at : Stmt := topS 72
/-- 0 text, 1 sign, 2 index, 3 number, 4 place, 5 found -/
def d_terms_at : DS :=
  (seqD (asgD (ifE (testD (bin2 (eqA false) (sliceD (varD 0) noneD (someD (conD (.int 1)))) (conD (.str "-")))) (tupD (consD (un1 negA (conD (.int 1))) (consD (conD (.int 1)) nilD))) (tupD (consD (conD (.int 1)) (consD (conD (.int 0)) nilD)))) (tupG 2 (consG (nameG 1) (consG (nameG 2) nilG))))
  (seqD (ifD (testD (bin2 (eqA false) (sliceD (varD 0) noneD (someD (conD (.int 2)))) (conD (.str "-0")))) (raiseVD "ParseError" "index" (conD (.int 1))) nextD)
  (seqD (asgD (callD 2 f_term_at (consD (varD 0) (consD (varD 2) nilD))) (tupG 2 (consG (tupG 2 (consG (nameG 3) (consG (nameG 4) nilG))) (consG (nameG 2) nilG))))
  (seqD (setD 5 (lstD (consD (tupD (consD (bin2 mulA (varD 1) (varD 3)) (consD (varD 4) nilD))) nilD)))
  (seqD (whileD (testD (bin2 (cmpI qlt) (varD 2) (cbD bLen (consD (varD 0) nilD)))) (seqD (setD 2 (callD 3 f_require_sign (consD (varD 0) (consD (varD 2) (consD (conD (.str " ")) nilD)))))
  (seqD (ifD (testD (bin2 (inA true) (sliceD (varD 0) (someD (varD 2)) (someD (bin2 addA (varD 2) (conD (.int 1))))) (tupD (consD (conD (.str "+")) (consD (conD (.str "-")) nilD))))) (raiseVD "ParseError" "index" (varD 2)) nextD)
  (seqD (setD 1 (ifE (testD (bin2 (eqA false) (bin2 ixA (varD 0) (varD 2)) (conD (.str "+")))) (conD (.int 1)) (un1 negA (conD (.int 1)))))
  (seqD (asgD (callD 2 f_term_at (consD (varD 0) (consD (callD 3 f_require_sign (consD (varD 0) (consD (bin2 addA (varD 2) (conD (.int 1))) (consD (conD (.str " ")) nilD)))) nilD))) (tupG 2 (consG (tupG 2 (consG (nameG 3) (consG (nameG 4) nilG))) (consG (nameG 2) nilG))))
  (dropD (methD "list" mAppend (varD 5) (consD (tupD (consD (bin2 mulA (varD 1) (varD 3)) (consD (varD 4) nilD))) nilD))))))))
  (retD (varD 5)))))))
def f_terms_at : DF := bodyD 1 6 d_terms_at
theorem sc_terms_at : L2.FnScope ["text", "sign", "index", "number", "place", "found"] ["text"] (L2.defScope s_terms_at) := ⟨rfl, rfl, rfl, by decide +kernel, rfl, by decide +kernel, by decide +kernel⟩
/-! read_kinds -/
abbrev s_read_kinds : Stmt := topS 73
/-- 0 text, 1 length, 2 terms, 3 found, 4 number, 5 place -/
def d_read_kinds : DS :=
  (seqD (dropD (callD 1 f_require_text (consD (varD 0) nilD)))
  (seqD (dropD (callD 3 f_require_within (consD (varD 1) (consD (conD (.int 1)) (consD (conD (.int 60)) nilD)))))
  (seqD (setD 2 (ifE (testD (bin2 (eqA false) (varD 0) (conD (.str "0")))) (lstD nilD) (callD 1 f_terms_at (consD (varD 0) nilD))))
  (seqD (ifD (testD (cbD bAny (consD (lcD (itSeq (varD 2)) (tupG 2 (consG (nameG 4) (consG (nameG 5) nilG))) yesT (bin2 (cmpI qge) (varD 5) (varD 1)) [4, 5]) nilD))) (raiseD "InvalidKinds") nextD)
  (seqD (setD 3 (bin2 mulA (lstD (consD (conD (.int 0)) nilD)) (varD 1)))
  (seqD (forD (itSeq (varD 2)) (tupG 2 (consG (nameG 4) (consG (nameG 5) nilG))) (augItD (varD 3) (varD 5) (varD 4)))
  (seqD (ifD (notT (testD (callD 1 f_are_integers (consD (cbD bTuple (consD (varD 3) nilD)) nilD)))) (raiseD "InvalidKinds") nextD)
  (retD (cbD bTuple (consD (varD 3) nilD))))))))))
def f_read_kinds : DF := bodyD 2 6 d_read_kinds
theorem sc_read_kinds : L2.FnScope ["text", "length", "terms", "found", "number", "place"] ["text", "length"] (L2.defScope s_read_kinds) := ⟨rfl, rfl, rfl, by decide +kernel, rfl, by decide +kernel, by decide +kernel⟩
/-! row_text -/
abbrev s_row_text : Stmt := topS 51
/-- 0 row, 1 number -/
def d_row_text : DS :=
  (retD (methD "str" mJoin (conD (.str ",")) (consD (lcD (itSeq (varD 0)) (nameG 1) yesT (cbD bStr (consD (varD 1) nilD)) [1]) nilD)))
def f_row_text : DF := bodyD 1 2 d_row_text
theorem sc_row_text : L2.FnScope ["row", "number"] ["row"] (L2.defScope s_row_text) := ⟨rfl, rfl, rfl, by decide +kernel, rfl, by decide +kernel, by decide +kernel⟩
/-! write_row -/
abbrev s_write_row : Stmt := topS 57
/-- 0 row -/
def d_write_row : DS :=
  (seqD (ifD (notT (testD (callD 1 f_are_integers (consD (varD 0) nilD)))) (raiseD "InvalidRow") nextD)
  (retD (callD 1 f_row_text (consD (varD 0) nilD))))
def f_write_row : DF := bodyD 1 1 d_write_row
theorem sc_write_row : L2.FnScope ["row"] ["row"] (L2.defScope s_write_row) := ⟨rfl, rfl, rfl, by decide +kernel, rfl, by decide +kernel, by decide +kernel⟩
/-! term_text -/
abbrev s_term_text : Stmt := topS 52
/-- 0 number, 1 index -/
def d_term_text : DS :=
  (retD (ifE (testD (bin2 (eqA false) (varD 0) (conD (.int 1)))) (joinedD [(conD (.str "[")), (un1 fmtA (varD 1)), (conD (.str "]"))]) (joinedD [(un1 fmtA (varD 0)), (conD (.str "[")), (un1 fmtA (varD 1)), (conD (.str "]"))])))
def f_term_text : DF := bodyD 2 2 d_term_text
theorem sc_term_text : L2.FnScope ["number", "index"] ["number", "index"] (L2.defScope s_term_text) := ⟨rfl, rfl, rfl, by decide +kernel, rfl, by decide +kernel, by decide +kernel⟩
/-! kinds_text -/
abbrev s_kinds_text : Stmt := topS 53
/-- 0 kinds, 1 found, 2 index, 3 number, 4 sign -/
def d_kinds_text : DS :=
  (seqD (setD 1 (conD (.str "")))
  (seqD (forD (itEn (consD (varD 0) nilD)) (tupG 2 (consG (nameG 2) (consG (nameG 3) nilG))) (ifD (testD (bin2 (eqA true) (varD 3) (conD (.int 0)))) (seqD (setD 4 (ifE (testD (bin2 (eqA false) (varD 1) (conD (.str "")))) (ifE (testD (bin2 (cmpI qlt) (varD 3) (conD (.int 0)))) (conD (.str "-")) (conD (.str ""))) (ifE (testD (bin2 (cmpI qlt) (varD 3) (conD (.int 0)))) (conD (.str " - ")) (conD (.str " + ")))))
  (setD 1 (bin2 addA (bin2 addA (varD 1) (varD 4)) (callD 2 f_term_text (consD (cbD bAbs (consD (varD 3) nilD)) (consD (varD 2) nilD)))))) nextD))
  (retD (orTD (varD 1) (conD (.str "0"))))))
def f_kinds_text : DF := bodyD 1 5 d_kinds_text
theorem sc_kinds_text : L2.FnScope ["kinds", "found", "index", "number", "sign"] ["kinds"] (L2.defScope s_kinds_text) := ⟨rfl, rfl, rfl, by decide +kernel, rfl, by decide +kernel, by decide +kernel⟩
/-! write_kinds -/
abbrev s_write_kinds : Stmt := topS 58
/-- 0 kinds -/
def d_write_kinds : DS :=
  (seqD (ifD (notT (testD (callD 1 f_are_integers (consD (varD 0) nilD)))) (raiseD "InvalidKinds") nextD)
  (retD (callD 1 f_kinds_text (consD (varD 0) nilD))))
def f_write_kinds : DF := bodyD 1 1 d_write_kinds
theorem sc_write_kinds : L2.FnScope ["kinds"] ["kinds"] (L2.defScope s_write_kinds) := ⟨rfl, rfl, rfl, by decide +kernel, rfl, by decide +kernel, by decide +kernel⟩
/-! _law_bag -/
abbrev s__law_bag : Stmt := topS 75
/-- 0 _law_script, 1 _law_spot, 2 _law_cell, 3 _law_great, 4 _law_mixed -/
def d__law_bag : DS :=
  (seqD (setD 2 (ifE (testD (bin2 (cmpI qlt) (varD 1) (cbD bLen (consD (varD 0) nilD)))) (bin2 ixA (varD 0) (varD 1)) (bin2 addA (bin2 addA (cbD bSum (consD (sliceD (varD 0) noneD (someD (conD (.int 1)))) nilD)) (bin2 mulA (conD (.int 151)) (varD 1))) (conD (.int 89)))))
  (seqD (setD 3 (bin2 (intA modI) (cbD bInt (consD (cbD bAbs (consD (varD 2) nilD)) nilD)) (bin2 (intA powI) (bin2 (intA powI) (conD (.int 10)) (conD (.int 45))) (conD (.int 13)))))
  (seqD (setD 4 (bin2 addA (bin2 addA (bin2 addA (bin2 mulA (bin2 (intA modI) (cbD bInt (consD (varD 3) nilD)) (conD (.int 2305843009213693723))) (conD (.int 1000457))) (bin2 mulA (conD (.int 9029)) (varD 1))) (bin2 mulA (conD (.int 53)) (cbD bInt (consD (bin2 (cmpI qlt) (varD 2) (conD (.int 0))) nilD)))) (conD (.int 37))))
  (retD (lstD (consD (cbD bMax (consD (conD (.int 0)) (consD (bin2 (intA subI) (varD 3) (bin2 (intA powI) (conD (.int 10)) (conD (.int 18)))) nilD))) (consD (bin2 (intA modI) (cbD bInt (consD (varD 4) nilD)) (conD (.int 2305843009213693951))) (consD (conD (.int 0)) nilD))))))))
def f__law_bag : DF := bodyD 2 5 d__law_bag
theorem sc__law_bag : L2.FnScope ["_law_script", "_law_spot", "_law_cell", "_law_great", "_law_mixed"] ["_law_script", "_law_spot"] (L2.defScope s__law_bag) := ⟨rfl, rfl, rfl, by decide +kernel, rfl, by decide +kernel, by decide +kernel⟩
/-! is_move_of -/
abbrev s_is_move_of : Stmt := topS 18
/-- 0 places, 1 value, 2 place -/
def d_is_move_of : DS :=
  (seqD (ifD (orT (notT (testD (cbD bIsi (consD (varD 1) (consD (conD (.ty "tuple")) nilD))))) (orT (testD (bin2 (eqA true) (cbD bLen (consD (varD 1) nilD)) (varD 0))) (notT (testD (cbD bAll (consD (lcD (itSeq (varD 1)) (nameG 2) yesT (callD 1 f_is_plain (consD (varD 2) nilD)) [2]) nilD)))))) (retD (conD (.bl false))) nextD)
  (retD (bin2 (eqA false) (cbD bSorted (consD (varD 1) nilD)) (lstRg (rg1 (varD 0))))))
def f_is_move_of : DF := bodyD 2 3 d_is_move_of
theorem sc_is_move_of : L2.FnScope ["places", "value", "place"] ["places", "value"] (L2.defScope s_is_move_of) := ⟨rfl, rfl, rfl, by decide +kernel, rfl, by decide +kernel, by decide +kernel⟩
/-! is_any_move -/
abbrev s_is_any_move : Stmt := topS 19
/-- 0 value -/
def d_is_any_move : DS :=
  (retD (andV (cbD bIsi (consD (varD 0) (consD (conD (.ty "tuple")) nilD))) (andV (chain3 (cmpI qle) (cmpI qle) (conD (.int 1)) (cbD bLen (consD (varD 0) nilD)) (conD (.int 24))) (callD 2 f_is_move_of (consD (cbD bLen (consD (varD 0) nilD)) (consD (varD 0) nilD))))))
def f_is_any_move : DF := bodyD 1 1 d_is_any_move
theorem sc_is_any_move : L2.FnScope ["value"] ["value"] (L2.defScope s_is_any_move) := ⟨rfl, rfl, rfl, by decide +kernel, rfl, by decide +kernel, by decide +kernel⟩
/-! cycles_in -/
abbrev s_cycles_in : Stmt := topS 23
/-- 0 move, 1 found, 2 seen, 3 start, 4 ring, 5 place -/
def d_cycles_in : DS :=
  (seqD (parD 1 2 (consD (lstD nilD) (consD dnewKD nilD)))
  (seqD (forD (itRg1 (consD (cbD bLen (consD (varD 0) nilD)) nilD)) (nameG 3) (ifD (testD (bin2 (inA true) (varD 3) (varD 2))) (seqD (parD 4 5 (consD (lstD nilD) (consD (varD 3) nilD)))
  (seqD (whileD (testD (bin2 (inA true) (varD 5) (varD 2))) (seqD (setItD (varD 2) (varD 5) (conD (.bl true)))
  (seqD (dropD (methD "list" mAppend (varD 4) (consD (varD 5) nilD)))
  (setD 5 (bin2 ixA (varD 0) (varD 5))))))
  (dropD (methD "list" mAppend (varD 1) (consD (cbD bTuple (consD (varD 4) nilD)) nilD))))) nextD))
  (retD (varD 1))))
def f_cycles_in : DF := bodyD 1 6 d_cycles_in
theorem sc_cycles_in : L2.FnScope ["move", "found", "seen", "start", "ring", "place"] ["move"] (L2.defScope s_cycles_in) := ⟨rfl, rfl, rfl, by decide +kernel, rfl, by decide +kernel, by decide +kernel⟩
/-! move_text -/
abbrev s_move_text : Stmt := topS 49
/-- 0 move, 1 rings, 2 cycle, 3 place, 4 ring -/
def d_move_text : DS :=
  (seqD (setD 1 (lcD (itSeq (callD 1 f_cycles_in (consD (varD 0) nilD))) (nameG 2) (testD (bin2 (cmpI qgt) (cbD bLen (consD (varD 2) nilD)) (conD (.int 1)))) (methD "str" mJoin (conD (.str " ")) (consD (lcD (itSeq (varD 2)) (nameG 3) yesT (cbD bStr (consD (varD 3) nilD)) [3]) nilD)) [2]))
  (retD (orTD (methD "str" mJoin (conD (.str "")) (consD (lcD (itSeq (varD 1)) (nameG 4) yesT (joinedD [(conD (.str "(")), (un1 fmtA (varD 4)), (conD (.str ")"))]) [4]) nilD)) (conD (.str "()")))))
def f_move_text : DF := bodyD 1 5 d_move_text
theorem sc_move_text : L2.FnScope ["move", "rings", "cycle", "place", "ring"] ["move"] (L2.defScope s_move_text) := ⟨rfl, rfl, rfl, by decide +kernel, rfl, by decide +kernel, by decide +kernel⟩
/-! write_move -/
abbrev s_write_move : Stmt := topS 55
/-- 0 move -/
def d_write_move : DS :=
  (seqD (ifD (notT (testD (callD 1 f_is_any_move (consD (varD 0) nilD)))) (raiseD "InvalidMove") nextD)
  (retD (callD 1 f_move_text (consD (varD 0) nilD))))
def f_write_move : DF := bodyD 1 1 d_write_move
theorem sc_write_move : L2.FnScope ["move"] ["move"] (L2.defScope s_write_move) := ⟨rfl, rfl, rfl, by decide +kernel, rfl, by decide +kernel, by decide +kernel⟩
/-! require_group -/
abbrev s_require_group : Stmt := topS 37
/-- 0 value -/
def d_require_group : DS :=
  (ifD (notT (testD (cbD (bIsiG "Group") (consD (varD 0) (consD (conD (.glo "Group")) nilD))))) (raiseD "InvalidGroup") nextD)
def f_require_group : DF := bodyD 1 1 d_require_group
theorem sc_require_group : L2.FnScope ["value"] ["value"] (L2.defScope s_require_group) := ⟨rfl, rfl, rfl, by decide +kernel, rfl, by decide +kernel, by decide +kernel⟩
/-! write_group -/
abbrev s_write_group : Stmt := topS 56
/-- 0 group -/
def d_write_group : DS :=
  (seqD (dropD (callD 1 f_require_group (consD (varD 0) nilD)))
  neverD)
def f_write_group : DF := bodyD 1 1 d_write_group
theorem sc_write_group : L2.FnScope ["group"] ["group"] (L2.defScope s_write_group) := ⟨rfl, rfl, rfl, by decide +kernel, rfl, by decide +kernel, by decide +kernel⟩
/-! table_lines -/
abbrev s_table_lines : Stmt := topS 59
/-- 0 group, 1 first, 2 row, 3 mark -/
def d_table_lines : DS :=
  (dropD (callD 1 f_require_group (consD (varD 0) nilD)))
def g_table_lines : DF := firstD 1 4 d_table_lines
theorem gsc_table_lines : L2.GScope ["group", "first", "row", "mark"] ["group"] (L2.defScope s_table_lines) := ⟨rfl, rfl, rfl, by decide +kernel, rfl, by decide +kernel, by decide +kernel⟩
/-! _law_grab -/
abbrev s__law_grab : Stmt := topS 76
/-- 0 _law_bag_here, 1 _law_total, 2 _law_found, 3 _law_one, 4 _law_two -/
def d__law_grab : DS :=
  (seqD (ifD (testD (bin2 (cmpI qgt) (bin2 ixA (varD 0) (conD (.int 0))) (conD (.int 0)))) (seqD (setD 2 (bin2 (intA modI) (cbD bInt (consD (bin2 ixA (varD 0) (conD (.int 0))) nilD)) (varD 1)))
  (seqD (setItD (varD 0) (conD (.int 0)) (bin2 (intA divI) (bin2 ixA (varD 0) (conD (.int 0))) (varD 1)))
  (retD (varD 2)))) nextD)
  (seqD (setItD (varD 0) (conD (.int 2)) (bin2 addA (bin2 ixA (varD 0) (conD (.int 2))) (conD (.int 1))))
  (seqD (setD 3 (bin2 (intA modI) (cbD bInt (consD (bin2 addA (bin2 ixA (varD 0) (conD (.int 1))) (bin2 mulA (conD (.int 1048637)) (bin2 ixA (varD 0) (conD (.int 2))))) nilD)) (conD (.int 2305843009213693951))))
  (seqD (setD 4 (bin2 addA (bin2 mulA (bin2 (intA modI) (cbD bInt (consD (bin2 mulA (varD 3) (varD 3)) nilD)) (conD (.int 2305843009213693723))) (varD 3)) (bin2 mulA (conD (.int 8161)) (bin2 ixA (varD 0) (conD (.int 2))))))
  (retD (bin2 (intA modI) (cbD bInt (consD (bin2 (intA divI) (bin2 (intA modI) (cbD bInt (consD (varD 4) nilD)) (conD (.int 2305843009213693921))) (conD (.int 16384))) nilD)) (varD 1)))))))
def f__law_grab : DF := bodyD 2 5 d__law_grab
theorem sc__law_grab : L2.FnScope ["_law_bag_here", "_law_total", "_law_found", "_law_one", "_law_two"] ["_law_bag_here", "_law_total"] (L2.defScope s__law_grab) := ⟨rfl, rfl, rfl, by decide +kernel, rfl, by decide +kernel, by decide +kernel⟩
/-! _law_one_of -/
abbrev s__law_one_of : Stmt := topS 77
/-- 0 _law_bag_here, 1 _law_items -/
def d__law_one_of : DS :=
  (retD (bin2 ixA (varD 1) (callD 2 f__law_grab (consD (varD 0) (consD (cbD bLen (consD (varD 1) nilD)) nilD)))))
def f__law_one_of : DF := bodyD 2 2 d__law_one_of
theorem sc__law_one_of : L2.FnScope ["_law_bag_here", "_law_items"] ["_law_bag_here", "_law_items"] (L2.defScope s__law_one_of) := ⟨rfl, rfl, rfl, by decide +kernel, rfl, by decide +kernel, by decide +kernel⟩
/-! _law_written_right -/
abbrev s__law_written_right : Stmt := topS 79
/-- 0 _law_bag_here, 1 _law_move, 2 _law_group, 3 _law_row, 4 _law_told -/
def d__law_written_right (T__law_written_right : Addr) : DS :=
  (seqD (setD 1 (callD 2 f__law_one_of (consD (varD 0) (consD (lstD (consD (conD .non) (consD (tupD nilD) (consD (tupD (consD (conD (.int 0)) (consD (conD (.int 0)) nilD))) (consD (tupD (consD (conD (.int 1)) (consD (conD (.int 2)) nilD))) (consD (lstD (consD (conD (.int 0)) (consD (conD (.int 1)) nilD))) (consD (tupD (consD (conD (.bl true)) (consD (conD (.int 0)) nilD))) (consD (tupRg (rg1 (conD (.int 25)))) (consD (conD (.str "()")) (consD (conD (.int 3)) (consD (tupD (consD (conD (.int 0)) (consD (conD (.int 2)) nilD))) (consD dnewKD (consD (tupD (consD (un1 negA (conD (.int 1))) (consD (conD (.int 0)) nilD))) (consD (tupD (consD (tupD (consD (conD (.int 0)) nilD)) nilD)) nilD)))))))))))))) nilD))))
  (seqD (setD 2 (callD 2 f__law_one_of (consD (varD 0) (consD (lstD (consD (conD .non) (consD (tupD nilD) (consD (conD (.str "2:")) (consD (conD (.int 2)) (consD (tupD (consD (conD (.int 2)) (consD (tupD nilD) nilD))) (consD (lstD nilD) (consD dnewKD (consD (tupD (consD (tupD (consD (conD (.int 1)) (consD (conD (.int 0)) nilD))) nilD)) nilD))))))))) nilD))))
  (seqD (setD 3 (callD 2 f__law_one_of (consD (varD 0) (consD (lstD (consD (conD .non) (consD (tupD nilD) (consD (bin2 mulA (tupD (consD (conD (.int 0)) nilD)) (conD (.int 61))) (consD (lstD (consD (conD (.int 1)) nilD)) (consD (tupD (consD (conD (.int 1)) (consD (conD .non) nilD))) (consD (tupD (consD (bin2 (intA powI) (conD (.int 10)) (conD (.int 60))) nilD)) (consD (tupD (consD (conD (.bl true)) nilD)) (consD (conD (.str "1")) (consD (conD (.int 1)) (consD dnewKD (consD (tupD (consD (un1 negA (bin2 (intA powI) (conD (.int 10)) (conD (.int 60)))) nilD)) (consD (tupD (consD (tupD (consD (conD (.int 1)) nilD)) nilD)) (consD (tupD (consD (conD (.str "1")) nilD)) nilD)))))))))))))) nilD))))
  (seqD (setD 4 (lstD (consD (lamD T__law_written_right ((("_law_written_right" : Str) ++ (".<locals>." : Str)) ++ ("<lambda>" : Str)) 0 F__law_word (callD 1 f_write_move (consD (varD 1) nilD))) nilD)))
  (seqD (dropD (methD "list" mAppend (varD 4) (consD (lamD T__law_written_right ((("_law_written_right" : Str) ++ (".<locals>." : Str)) ++ ("<lambda>" : Str)) 0 F__law_word (callD 1 f_write_group (consD (varD 2) nilD))) nilD)))
  (seqD (dropD (methD "list" mAppend (varD 4) (consD (lamD T__law_written_right ((("_law_written_right" : Str) ++ (".<locals>." : Str)) ++ ("<lambda>" : Str)) 0 F__law_word (callD 1 f_write_row (consD (varD 3) nilD))) nilD)))
  (seqD (dropD (methD "list" mAppend (varD 4) (consD (lamD T__law_written_right ((("_law_written_right" : Str) ++ (".<locals>." : Str)) ++ ("<lambda>" : Str)) 0 F__law_word (callD 1 f_write_kinds (consD (varD 3) nilD))) nilD)))
  (seqD (dropD (methD "list" mAppend (varD 4) (consD (lamD T__law_written_right ((("_law_written_right" : Str) ++ (".<locals>." : Str)) ++ ("<lambda>" : Str)) 0 F__law_word (genD "InvalidGroup" 1 g_table_lines (consD (varD 2) nilD))) nilD)))
  (retD (bin2 (eqA false) (varD 4) (lstD (consD (conD (.str "move")) (consD (conD (.str "group")) (consD (conD (.str "row")) (consD (conD (.str "kinds")) (consD (conD (.str "group")) nilD))))))))))))))))
def f__law_written_right (T__law_written_right : Addr) : DF := bodyD 1 5 (d__law_written_right T__law_written_right)
theorem sc__law_written_right : L2.FnScope ["_law_bag_here", "_law_move", "_law_group", "_law_row", "_law_told"] ["_law_bag_here"] (L2.defScope s__law_written_right) := ⟨rfl, rfl, rfl, by decide +kernel, rfl, by decide +kernel, by decide +kernel⟩
/-! cycle_at -/
abbrev s_cycle_at : Stmt := topS 64
/-- 0 text, 1 index, 2 place, 3 found -/
def d_cycle_at : DS :=
  (seqD (asgD (callD 2 f_plain_at (consD (varD 0) (consD (callD 3 f_require_sign (consD (varD 0) (consD (varD 1) (consD (conD (.str "(")) nilD)))) nilD))) (tupG 2 (consG (nameG 2) (consG (nameG 1) nilG))))
  (seqD (setD 3 (lstD (consD (varD 2) nilD)))
  (seqD (whileD (orT (testD (bin2 (cmpI qlt) (cbD bLen (consD (varD 3) nilD)) (conD (.int 2)))) (testD (bin2 (eqA false) (sliceD (varD 0) (someD (varD 1)) (someD (bin2 addA (varD 1) (conD (.int 1))))) (conD (.str " "))))) (seqD (asgD (callD 2 f_plain_at (consD (varD 0) (consD (callD 3 f_require_sign (consD (varD 0) (consD (varD 1) (consD (conD (.str " ")) nilD)))) nilD))) (tupG 2 (consG (nameG 2) (consG (nameG 1) nilG))))
  (dropD (methD "list" mAppend (varD 3) (consD (varD 2) nilD)))))
  (retD (tupD (consD (cbD bTuple (consD (varD 3) nilD)) (consD (callD 3 f_require_sign (consD (varD 0) (consD (varD 1) (consD (conD (.str ")")) nilD)))) nilD)))))))
def f_cycle_at : DF := bodyD 2 4 d_cycle_at
theorem sc_cycle_at : L2.FnScope ["text", "index", "place", "found"] ["text", "index"] (L2.defScope s_cycle_at) := ⟨rfl, rfl, rfl, by decide +kernel, rfl, by decide +kernel, by decide +kernel⟩
/-! cycles_at -/
abbrev s_cycles_at : Stmt := topS 65
/-- 0 text, 1 index, 2 cycle, 3 found -/
def d_cycles_at : DS :=
  (seqD (ifD (testD (bin2 (eqA false) (sliceD (varD 0) (someD (varD 1)) (someD (bin2 addA (varD 1) (conD (.int 2))))) (conD (.str "()")))) (retD (tupD (consD (lstD nilD) (consD (bin2 addA (varD 1) (conD (.int 2))) nilD)))) nextD)
  (seqD (asgD (callD 2 f_cycle_at (consD (varD 0) (consD (varD 1) nilD))) (tupG 2 (consG (nameG 2) (consG (nameG 1) nilG))))
  (seqD (setD 3 (lstD (consD (varD 2) nilD)))
  (seqD (whileD (testD (bin2 (eqA false) (sliceD (varD 0) (someD (varD 1)) (someD (bin2 addA (varD 1) (conD (.int 1))))) (conD (.str "(")))) (seqD (asgD (callD 2 f_cycle_at (consD (varD 0) (consD (varD 1) nilD))) (tupG 2 (consG (nameG 2) (consG (nameG 1) nilG))))
  (dropD (methD "list" mAppend (varD 3) (consD (varD 2) nilD)))))
  (retD (tupD (consD (varD 3) (consD (varD 1) nilD))))))))
def f_cycles_at : DF := bodyD 2 4 d_cycles_at
theorem sc_cycles_at : L2.FnScope ["text", "index", "cycle", "found"] ["text", "index"] (L2.defScope s_cycles_at) := ⟨rfl, rfl, rfl, by decide +kernel, rfl, by decide +kernel, by decide +kernel⟩
/-! move_told -/
abbrev s_move_told : Stmt := topS 67
/-- 0 places, 1 cycles, 2 told, 3 found, 4 cycle, 5 at, 6 place -/
def d_move_told : DS :=
  (seqD (setD 2 (lc2D (itSeq (varD 1)) (nameG 4) yesT (itSeq (varD 4)) [6] (nameG 6) yesT (varD 6) [4, 6]))
  (seqD (ifD (orT (testD (bin2 (cmpI qlt) (cbD bLen (consD (dcD (itSeq (varD 2)) (nameG 6) yesT (varD 6) (conD (.bl true)) [6]) nilD)) (cbD bLen (consD (varD 2) nilD)))) (testD (bin2 (cmpI qge) (maxKD (consD (varD 2) nilD) 0) (varD 0)))) (raiseD "InvalidMove") nextD)
  (seqD (setD 3 (lstRg (rg1 (varD 0))))
  (seqD (forD (itSeq (varD 1)) (nameG 4) (forD (itEn (consD (varD 4) nilD)) (tupG 2 (consG (nameG 5) (consG (nameG 6) nilG))) (setItD (varD 3) (varD 6) (bin2 ixA (varD 4) (bin2 (intA modI) (bin2 addA (varD 5) (conD (.int 1))) (cbD bLen (consD (varD 4) nilD)))))))
  (retD (cbD bTuple (consD (varD 3) nilD)))))))
def f_move_told : DF := bodyD 2 7 d_move_told
theorem sc_move_told : L2.FnScope ["places", "cycles", "told", "found", "cycle", "at", "place"] ["places", "cycles"] (L2.defScope s_move_told) := ⟨rfl, rfl, rfl, by decide +kernel, rfl, by decide +kernel, by decide +kernel⟩
/-! read_move -/
abbrev s_read_move : Stmt := topS 68
/-- 0 text, 1 places, 2 cycles, 3 index -/
def d_read_move : DS :=
  (seqD (dropD (callD 1 f_require_text (consD (varD 0) nilD)))
  (seqD (dropD (callD 3 f_require_within (consD (varD 1) (consD (conD (.int 1)) (consD (conD (.int 24)) nilD)))))
  (seqD (asgD (callD 2 f_cycles_at (consD (varD 0) (consD (conD (.int 0)) nilD))) (tupG 2 (consG (nameG 2) (consG (nameG 3) nilG))))
  (seqD (dropD (callD 2 f_require_end (consD (varD 0) (consD (varD 3) nilD))))
  (retD (callD 2 f_move_told (consD (varD 1) (consD (varD 2) nilD))))))))
def f_read_move : DF := bodyD 2 4 d_read_move
theorem sc_read_move : L2.FnScope ["text", "places", "cycles", "index"] ["text", "places"] (L2.defScope s_read_move) := ⟨rfl, rfl, rfl, by decide +kernel, rfl, by decide +kernel, by decide +kernel⟩
/-! read_group -/
abbrev s_read_group : Stmt := topS 69
/-- 0 text, 1 places, 2 index, 3 told, 4 cycles, 5 makers -/
def d_read_group : DS :=
  (seqD (dropD (callD 1 f_require_text (consD (varD 0) nilD)))
  (seqD neverD
  (seqD neverD
  (seqD neverD
  (seqD neverD
  (seqD neverD
  (seqD neverD
  neverD)))))))
def f_read_group : DF := bodyD 1 6 d_read_group
theorem sc_read_group : L2.FnScope ["text", "places", "index", "told", "cycles", "makers"] ["text"] (L2.defScope s_read_group) := ⟨rfl, rfl, rfl, by decide +kernel, rfl, by decide +kernel, by decide +kernel⟩
/-! _law_read_right -/
abbrev s__law_read_right : Stmt := topS 80
/-- 0 _law_bag_here, 1 _law_none, 2 _law_places, 3 _law_length, 4 _law_odd, 5 _law_told, 6 _law_due -/
def d__law_read_right (T__law_read_right : Addr) : DS :=
  (seqD (setD 1 (callD 2 f__law_one_of (consD (varD 0) (consD (lstD (consD (conD .non) (consD (conD (.int 0)) (consD (tupD nilD) (consD (tupD (consD (conD (.str "()")) nilD)) (consD (lstD (consD (conD (.str "0")) nilD)) (consD dnewKD (consD (conD (.bl true)) (consD (bin2 mulA (conD (.str "0,")) (conD (.int 1501))) (consD (bin2 mulA (conD (.str "(")) (conD (.int 3001))) (consD (bin2 mulA (conD (.str "1")) (conD (.int 3001))) (consD (tupD (consD (conD (.str "1")) nilD)) nilD)))))))))))) nilD))))
  (seqD (setD 2 (callD 2 f__law_one_of (consD (varD 0) (consD (lstD (consD (conD (.int 0)) (consD (conD (.int 25)) (consD (un1 negA (conD (.int 1))) (consD (conD .non) (consD (conD (.bl true)) (consD (conD (.str "3")) (consD (tupD (consD (conD (.int 3)) nilD)) (consD (bin2 (intA powI) (conD (.int 10)) (conD (.int 60))) nilD))))))))) nilD))))
  (seqD (setD 3 (callD 2 f__law_one_of (consD (varD 0) (consD (lstD (consD (conD (.int 0)) (consD (conD (.int 61)) (consD (un1 negA (conD (.int 1))) (consD (conD .non) (consD (conD (.bl true)) (consD (conD (.str "3")) (consD (tupD (consD (conD (.int 3)) nilD)) (consD (bin2 (intA powI) (conD (.int 10)) (conD (.int 60))) nilD))))))))) nilD))))
  (seqD (setD 4 (callD 2 f__law_one_of (consD (varD 0) (consD (lstD (consD (conD (.str "")) (consD (conD (.str "x")) (consD (conD (.str "(0 1")) (consD (conD (.str "[0")) (consD (conD (.str "1,")) (consD (conD (.str ")")) nilD))))))) nilD))))
  (seqD (setD 5 (lstD (consD (lamD T__law_read_right ((("_law_read_right" : Str) ++ (".<locals>." : Str)) ++ ("<lambda>" : Str)) 1 F__law_word (callD 2 f_read_move (consD (varD 1) (consD (varD 2) nilD)))) nilD)))
  (seqD (dropD (methD "list" mAppend (varD 5) (consD (lamD T__law_read_right ((("_law_read_right" : Str) ++ (".<locals>." : Str)) ++ ("<lambda>" : Str)) 1 F__law_word (callD 2 f_read_move (consD (varD 4) (consD (varD 2) nilD)))) nilD)))
  (seqD (dropD (methD "list" mAppend (varD 5) (consD (lamD T__law_read_right ((("_law_read_right" : Str) ++ (".<locals>." : Str)) ++ ("<lambda>" : Str)) 1 F__law_word (callD 2 f_read_move (consD (conD (.str "(0 9)")) (consD (varD 2) nilD)))) nilD)))
  (seqD (dropD (methD "list" mAppend (varD 5) (consD (lamD T__law_read_right ((("_law_read_right" : Str) ++ (".<locals>." : Str)) ++ ("<lambda>" : Str)) 1 F__law_word (callD 2 f_read_kinds (consD (varD 1) (consD (varD 3) nilD)))) nilD)))
  (seqD (dropD (methD "list" mAppend (varD 5) (consD (lamD T__law_read_right ((("_law_read_right" : Str) ++ (".<locals>." : Str)) ++ ("<lambda>" : Str)) 1 F__law_word (callD 2 f_read_kinds (consD (varD 4) (consD (varD 3) nilD)))) nilD)))
  (seqD (dropD (methD "list" mAppend (varD 5) (consD (lamD T__law_read_right ((("_law_read_right" : Str) ++ (".<locals>." : Str)) ++ ("<lambda>" : Str)) 1 F__law_word (callD 2 f_read_kinds (consD (conD (.str "[70]")) (consD (varD 3) nilD)))) nilD)))
  (seqD (dropD (methD "list" mAppend (varD 5) (consD (lamD T__law_read_right ((("_law_read_right" : Str) ++ (".<locals>." : Str)) ++ ("<lambda>" : Str)) 1 F__law_word (callD 1 f_read_row (consD (varD 1) nilD))) nilD)))
  (seqD (dropD (methD "list" mAppend (varD 5) (consD (lamD T__law_read_right ((("_law_read_right" : Str) ++ (".<locals>." : Str)) ++ ("<lambda>" : Str)) 1 F__law_word (callD 1 f_read_group (consD (varD 1) nilD))) nilD)))
  (seqD (setD 6 (lstD (consD (conD (.str "parse 0")) (consD (bin2 addA (conD (.str "number ")) (cbD bRepr (consD (varD 2) nilD))) (consD (bin2 addA (conD (.str "number ")) (cbD bRepr (consD (varD 2) nilD))) (consD (conD (.str "parse 0")) nilD))))))
  (retD (bin2 (eqA false) (varD 5) (bin2 addA (varD 6) (lstD (consD (bin2 addA (conD (.str "number ")) (cbD bRepr (consD (varD 3) nilD))) (consD (bin2 addA (conD (.str "number ")) (cbD bRepr (consD (varD 3) nilD))) (consD (conD (.str "parse 0")) (consD (conD (.str "parse 0")) nilD)))))))))))))))))))))
def f__law_read_right (T__law_read_right : Addr) : DF := bodyD 1 7 (d__law_read_right T__law_read_right)
theorem sc__law_read_right : L2.FnScope ["_law_bag_here", "_law_none", "_law_places", "_law_length", "_law_odd", "_law_told", "_law_due"] ["_law_bag_here"] (L2.defScope s__law_read_right) := ⟨rfl, rfl, rfl, by decide +kernel, rfl, by decide +kernel, by decide +kernel⟩
/-! law -/
abbrev s_law : Stmt := topS 81
/-- 0 _law_script, 1 _law_spot, 2 _law_bag_here, 3 _law_full, 4 _law_told -/
def d_law (T__law_written_right : Addr) (T__law_read_right : Addr) (T_law : Addr) : DS :=
  (seqD (forD (itRg1 (consD (cbD bMax (consD (conD (.int 1)) (consD (cbD bMin (consD (conD (.int 2)) (consD (cbD bLen (consD (varD 0) nilD)) nilD))) nilD))) nilD)) (nameG 1) (seqD (setD 2 (callD 2 f__law_bag (consD (varD 0) (consD (varD 1) nilD))))
  (ifD (orT (notT (testD (callD 1 (f__law_written_right T__law_written_right) (consD (varD 2) nilD)))) (notT (testD (callD 1 (f__law_read_right T__law_read_right) (consD (varD 2) nilD))))) (retD (conD (.bl false))) nextD)))
  (seqD (setD 3 (methD "str" mJoin (conD (.str ",")) (consD (bin2 mulA (lstD (consD (bin2 mulA (conD (.str "1")) (conD (.int 49))) nilD)) (conD (.int 60))) nilD)))
  (seqD (setD 4 (lstD (consD (lamD T_law ((("law" : Str) ++ (".<locals>." : Str)) ++ ("<lambda>" : Str)) 2 F__law_word (callD 1 f_read_row (consD (varD 3) nilD))) (consD (cbD bLen (consD (varD 3) nilD)) nilD))))
  (seqD (dropD (methD "list" mAppend (varD 4) (consD (lamD T_law ((("law" : Str) ++ (".<locals>." : Str)) ++ ("<lambda>" : Str)) 2 F__law_word (callD 1 f_read_row (consD (bin2 addA (varD 3) (conD (.str "1"))) nilD))) nilD)))
  (seqD (dropD (methD "list" mAppend (varD 4) (consD (lamD T_law ((("law" : Str) ++ (".<locals>." : Str)) ++ ("<lambda>" : Str)) 2 F__law_word (callD 1 f_read_row (consD (bin2 addA (varD 3) (conD (.str "1,"))) nilD))) nilD)))
  (seqD (dropD (methD "list" mAppend (varD 4) (consD (lamD T_law ((("law" : Str) ++ (".<locals>." : Str)) ++ ("<lambda>" : Str)) 2 F__law_word (callD 2 f_read_kinds (consD (bin2 addA (conD (.str "[0]")) (bin2 mulA (conD (.str " + [0]")) (conD (.int 499)))) (consD (conD (.int 1)) nilD)))) nilD)))
  (seqD (dropD (methD "list" mAppend (varD 4) (consD (lamD T_law ((("law" : Str) ++ (".<locals>." : Str)) ++ ("<lambda>" : Str)) 2 F__law_word (callD 1 f_write_row (consD (tupD nilD) nilD))) nilD)))
  (seqD (dropD (methD "list" mAppend (varD 4) (consD (lamD T_law ((("law" : Str) ++ (".<locals>." : Str)) ++ ("<lambda>" : Str)) 2 F__law_word (callD 1 f_write_kinds (consD (bin2 mulA (tupD (consD (conD (.int 0)) nilD)) (conD (.int 61))) nilD))) nilD)))
  (retD (bin2 (eqA false) (varD 4) (lstD (consD (conD (.str "fine")) (consD (conD (.int 2999)) (consD (conD (.str "fine")) (consD (conD (.str "parse 0")) (consD (conD (.str "fine")) (consD (conD (.str "row")) (consD (conD (.str "kinds")) nilD))))))))))))))))))
def f_law (T__law_written_right : Addr) (T__law_read_right : Addr) (T_law : Addr) : DF := bodyD 1 5 (d_law T__law_written_right T__law_read_right T_law)
theorem sc_law : L2.FnScope ["_law_script", "_law_spot", "_law_bag_here", "_law_full", "_law_told"] ["_law_script"] (L2.defScope s_law) := ⟨rfl, rfl, rfl, by decide +kernel, rfl, by decide +kernel, by decide +kernel⟩
end Dn

set_option maxHeartbeats 4000000
namespace Dn
open PySem PySem.Spec PyProof.Rows
open L2 (PE PT PA PS PSs PG PGs PI Cx WX Takes HO Hp VK)
theorem ok_are_integers {P : Program} {w : World} {K : PySem.W.Frag} {mg : Str → Option Value} {base : Heap} {f : Addr} {fd : FuncData} (F : L2.Fun K "are_integers" "are_integers" s_are_integers f fd) (mf : mg "are_integers" = some (.ref f)) (bf : L2.Binds K fd ["value"] []) (h_is_integer : Has P w K mg base 2 "is_integer" ["value"] f_is_integer) (c_MOST_MEMBERS : ∃ t, mg "MOST_MEMBERS" = some (.int 60 t)) (n_all : mg "all" = none) (n_isinstance : mg "isinstance" = none) (n_len : mg "len" = none) (n_tuple : mg "tuple" = none) : Has P w K mg base 3 "are_integers" ["value"] f_are_integers := by
  obtain ⟨g_is_integer, e_is_integer, F0_is_integer, m_is_integer, k_is_integer, b_is_integer⟩ := h_is_integer
  have F_is_integer := fn_mono F0_is_integer (by decide : 2 ≤ 2)
  refine ⟨f, _, fn_ok F sc_are_integers (by decide) fun cdv A outer s H E hr => ?_, mf, F.kp, bf⟩
  have S := sc_are_integers
  have tk := takes_cx (P := P) (w := w) (K := K) (mg := mg) (base := base) (N := ["value", "one"]) (qual := "are_integers") (sc := L2.defScope s_are_integers) (f := f) (cdv := cdv) (A := A) (outer := outer) (s := s) (H := H) (E := E)
  have pp := passes_cx (P := P) (w := w) (K := K) (mg := mg) (base := base) (N := ["value", "one"]) (qual := "are_integers") (sc := L2.defScope s_are_integers) (f := f) (cdv := cdv) (A := A) (outer := outer) (s := s) (H := H) (E := E)
  exact (b_one (s_ret (d_and (d_cb L2.call_isi rf_isi (by rfl) n_isinstance boot_isinstance (d_cons (d_var 0) (d_cons (d_bty (by rfl) n_tuple rfl) d_nil))) (d_and (d_chain L2.op_le rf_cmp L2.op_le rf_cmp d_int (d_cb call_lenA rf_len (by rfl) n_len boot_len (d_cons (d_var 0) d_nil)) (d_gint (by rfl) c_MOST_MEMBERS)) (d_one (d_cb (L2.cr_all rfl) rf_all (by rfl) n_all boot_all (d_cons (d_lc rfl S.nd (i_seq (d_var 0)) (L2.blkOk_by (own := [("one", 1)]) (by first | rfl | decide +kernel)) (by intro _ _ _ _ _; exact (g_name (i := 1) S.nd rfl (by first | exact .inl rfl | exact .inr rfl))) (by decide) (by intro _ _ _ _ _; exact ts_nil) (by intro _ _ _ _ _; exact (d_call (ps := ["value"]) F_is_integer hr (by rfl) m_is_integer k_is_integer b_is_integer takes0 (d_cons (d_var 1) d_nil)))) d_nil)))))))
end Dn

set_option maxHeartbeats 4000000
namespace Dn
open PySem PySem.Spec PyProof.Rows
open L2 (PE PT PA PS PSs PG PGs PI Cx WX Takes HO Hp VK)
theorem ok_cycle_at {P : Program} {w : World} {K : PySem.W.Frag} {mg : Str → Option Value} {base : Heap} {f : Addr} {fd : FuncData} (F : L2.Fun K "cycle_at" "cycle_at" s_cycle_at f fd) (mf : mg "cycle_at" = some (.ref f)) (bf : L2.Binds K fd ["text", "index"] []) (h_plain_at : Has P w K mg base 1 "plain_at" ["text", "index"] f_plain_at) (h_require_sign : Has P w K mg base 1 "require_sign" ["text", "index", "sign"] f_require_sign) (n_len : mg "len" = none) (n_tuple : mg "tuple" = none) : Has P w K mg base 2 "cycle_at" ["text", "index"] f_cycle_at := by
  obtain ⟨g_plain_at, e_plain_at, F0_plain_at, m_plain_at, k_plain_at, b_plain_at⟩ := h_plain_at
  have F_plain_at := fn_mono F0_plain_at (by decide : 1 ≤ 1)
  obtain ⟨g_require_sign, e_require_sign, F0_require_sign, m_require_sign, k_require_sign, b_require_sign⟩ := h_require_sign
  have F_require_sign := fn_mono F0_require_sign (by decide : 1 ≤ 1)
  refine ⟨f, _, fn_ok F sc_cycle_at (by decide) fun cdv A outer s H E hr => ?_, mf, F.kp, bf⟩
  have S := sc_cycle_at
  have tk := takes_cx (P := P) (w := w) (K := K) (mg := mg) (base := base) (N := ["text", "index", "place", "found"]) (qual := "cycle_at") (sc := L2.defScope s_cycle_at) (f := f) (cdv := cdv) (A := A) (outer := outer) (s := s) (H := H) (E := E)
  have pp := passes_cx (P := P) (w := w) (K := K) (mg := mg) (base := base) (N := ["text", "index", "place", "found"]) (qual := "cycle_at") (sc := L2.defScope s_cycle_at) (f := f) (cdv := cdv) (A := A) (outer := outer) (s := s) (H := H) (E := E)
  exact (b_cons (s_asg (d_call (ps := ["text", "index"]) F_plain_at hr (by rfl) m_plain_at k_plain_at b_plain_at tk (d_cons (d_var 0) (d_cons (d_call (ps := ["text", "index", "sign"]) F_require_sign hr (by rfl) m_require_sign k_require_sign b_require_sign tk (d_cons (d_var 0) (d_cons (d_var 1) (d_cons d_str d_nil)))) d_nil))) (g_tup rfl (gs_cons (g_name (i := 2) S.nd rfl (by first | exact .inl rfl | exact .inr rfl)) (gs_cons (g_name (i := 1) S.nd rfl (by first | exact .inl rfl | exact .inr rfl)) gs_nil))))
  (b_cons (s_set (i := 3) S.nd rfl (by first | exact .inl rfl | exact .inr rfl) (d_lst (d_cons (d_var 2) d_nil)))
  (b_cons (s_while pp (t_w (w_or (t_cmp L2.op_lt rf_cmp (d_cb call_lenA rf_len (by rfl) n_len boot_len (d_cons (d_var 3) d_nil)) d_int (by rfl)) (w_or1 (t_cmp (L2.op_eqD hr.units) rf_eq (d_slice (d_var 0) (o_some (d_var 1)) (o_some (d_bin op_addA rf_add (d_var 1) d_int))) d_str (by rfl))))) (b_cons (s_asg (d_call (ps := ["text", "index"]) F_plain_at hr (by rfl) m_plain_at k_plain_at b_plain_at tk (d_cons (d_var 0) (d_cons (d_call (ps := ["text", "index", "sign"]) F_require_sign hr (by rfl) m_require_sign k_require_sign b_require_sign tk (d_cons (d_var 0) (d_cons (d_var 1) (d_cons d_str d_nil)))) d_nil))) (g_tup rfl (gs_cons (g_name (i := 2) S.nd rfl (by first | exact .inl rfl | exact .inr rfl)) (gs_cons (g_name (i := 1) S.nd rfl (by first | exact .inl rfl | exact .inr rfl)) gs_nil))))
  (b_one (s_expr (d_bm PySem.F.plainAttrs_list PySem.F.slot_list_append PySem.F.type_list_append L2.mt_append rf_append (d_var 3) (d_cons (d_var 2) d_nil))))))
  (b_one (s_ret (d_tup (d_cons (d_ct L2.call_tuple_of rf_tuple (by rfl) n_tuple boot_tuple (d_cons (d_var 3) d_nil)) (d_cons (d_call (ps := ["text", "index", "sign"]) F_require_sign hr (by rfl) m_require_sign k_require_sign b_require_sign tk (d_cons (d_var 0) (d_cons (d_var 1) (d_cons d_str d_nil)))) d_nil))))))))
end Dn

set_option maxHeartbeats 4000000
namespace Dn
open PySem PySem.Spec PyProof.Rows
open L2 (PE PT PA PS PSs PG PGs PI Cx WX Takes HO Hp VK)
theorem ok_cycles_at {P : Program} {w : World} {K : PySem.W.Frag} {mg : Str → Option Value} {base : Heap} {f : Addr} {fd : FuncData} (F : L2.Fun K "cycles_at" "cycles_at" s_cycles_at f fd) (mf : mg "cycles_at" = some (.ref f)) (bf : L2.Binds K fd ["text", "index"] []) (h_cycle_at : Has P w K mg base 2 "cycle_at" ["text", "index"] f_cycle_at) (c_UNIT : ∃ t, mg "UNIT" = some (.str "()" t)) : Has P w K mg base 3 "cycles_at" ["text", "index"] f_cycles_at := by
  obtain ⟨g_cycle_at, e_cycle_at, F0_cycle_at, m_cycle_at, k_cycle_at, b_cycle_at⟩ := h_cycle_at
  have F_cycle_at := fn_mono F0_cycle_at (by decide : 2 ≤ 2)
  refine ⟨f, _, fn_ok F sc_cycles_at (by decide) fun cdv A outer s H E hr => ?_, mf, F.kp, bf⟩
  have S := sc_cycles_at
  have tk := takes_cx (P := P) (w := w) (K := K) (mg := mg) (base := base) (N := ["text", "index", "cycle", "found"]) (qual := "cycles_at") (sc := L2.defScope s_cycles_at) (f := f) (cdv := cdv) (A := A) (outer := outer) (s := s) (H := H) (E := E)
  have pp := passes_cx (P := P) (w := w) (K := K) (mg := mg) (base := base) (N := ["text", "index", "cycle", "found"]) (qual := "cycles_at") (sc := L2.defScope s_cycles_at) (f := f) (cdv := cdv) (A := A) (outer := outer) (s := s) (H := H) (E := E)
  exact (b_cons (s_if (t_cmp (L2.op_eqD hr.units) rf_eq (d_slice (d_var 0) (o_some (d_var 1)) (o_some (d_bin op_addA rf_add (d_var 1) d_int))) (d_gstr (by rfl) c_UNIT) (by rfl)) (b_one (s_ret (d_tup (d_cons (d_lst d_nil) (d_cons (d_bin op_addA rf_add (d_var 1) d_int) d_nil))))) b_nil)
  (b_cons (s_asg (d_call (ps := ["text", "index"]) F_cycle_at hr (by rfl) m_cycle_at k_cycle_at b_cycle_at tk (d_cons (d_var 0) (d_cons (d_var 1) d_nil))) (g_tup rfl (gs_cons (g_name (i := 2) S.nd rfl (by first | exact .inl rfl | exact .inr rfl)) (gs_cons (g_name (i := 1) S.nd rfl (by first | exact .inl rfl | exact .inr rfl)) gs_nil))))
  (b_cons (s_set (i := 3) S.nd rfl (by first | exact .inl rfl | exact .inr rfl) (d_lst (d_cons (d_var 2) d_nil)))
  (b_cons (s_while pp (t_cmp (L2.op_eqD hr.units) rf_eq (d_slice (d_var 0) (o_some (d_var 1)) (o_some (d_bin op_addA rf_add (d_var 1) d_int))) d_str (by rfl)) (b_cons (s_asg (d_call (ps := ["text", "index"]) F_cycle_at hr (by rfl) m_cycle_at k_cycle_at b_cycle_at tk (d_cons (d_var 0) (d_cons (d_var 1) d_nil))) (g_tup rfl (gs_cons (g_name (i := 2) S.nd rfl (by first | exact .inl rfl | exact .inr rfl)) (gs_cons (g_name (i := 1) S.nd rfl (by first | exact .inl rfl | exact .inr rfl)) gs_nil))))
  (b_one (s_expr (d_bm PySem.F.plainAttrs_list PySem.F.slot_list_append PySem.F.type_list_append L2.mt_append rf_append (d_var 3) (d_cons (d_var 2) d_nil))))))
  (b_one (s_ret (d_tup (d_cons (d_var 3) (d_cons (d_var 1) d_nil)))))))))
end Dn

set_option maxHeartbeats 4000000
namespace Dn
open PySem PySem.Spec PyProof.Rows
open L2 (PE PT PA PS PSs PG PGs PI Cx WX Takes HO Hp VK)
theorem ok_cycles_in {P : Program} {w : World} {K : PySem.W.Frag} {mg : Str → Option Value} {base : Heap} {f : Addr} {fd : FuncData} (F : L2.Fun K "cycles_in" "cycles_in" s_cycles_in f fd) (mf : mg "cycles_in" = some (.ref f)) (bf : L2.Binds K fd ["move"] []) (n_len : mg "len" = none) (n_range : mg "range" = none) (n_tuple : mg "tuple" = none) : Has P w K mg base 1 "cycles_in" ["move"] f_cycles_in := by
  refine ⟨f, _, fn_ok F sc_cycles_in (by decide) fun cdv A outer s H E hr => ?_, mf, F.kp, bf⟩
  have S := sc_cycles_in
  have tk := takes_cx (P := P) (w := w) (K := K) (mg := mg) (base := base) (N := ["move", "found", "seen", "start", "ring", "place"]) (qual := "cycles_in") (sc := L2.defScope s_cycles_in) (f := f) (cdv := cdv) (A := A) (outer := outer) (s := s) (H := H) (E := E)
  have pp := passes_cx (P := P) (w := w) (K := K) (mg := mg) (base := base) (N := ["move", "found", "seen", "start", "ring", "place"]) (qual := "cycles_in") (sc := L2.defScope s_cycles_in) (f := f) (cdv := cdv) (A := A) (outer := outer) (s := s) (H := H) (E := E)
  exact (b_cons (s_par (i := 1) (j := 2) rfl S.nd rfl rfl (by decide) rfl rfl (d_cons (d_lst d_nil) (d_cons d_dnewK d_nil)) (by rfl))
  (b_cons (s_for pp rfl (i_rg1 (by rfl) n_range (d_cons (d_cb call_lenA rf_len (by rfl) n_len boot_len (d_cons (d_var 0) d_nil)) d_nil)) (g_name (i := 3) S.nd rfl (by first | exact .inl rfl | exact .inr rfl)) (b_one (s_if (t_nin (L2.hu_of hr) (d_var 3) (d_var 2)) (b_cons (s_par (i := 4) (j := 5) rfl S.nd rfl rfl (by decide) rfl rfl (d_cons (d_lst d_nil) (d_cons (d_var 3) d_nil)) (by rfl))
  (b_cons (s_while pp (t_nin (L2.hu_of hr) (d_var 5) (d_var 2)) (b_cons (s_setIt (L2.hu_of hr) (d_var 2) (d_var 5) d_bl)
  (b_cons (s_expr (d_bm PySem.F.plainAttrs_list PySem.F.slot_list_append PySem.F.type_list_append L2.mt_append rf_append (d_var 4) (d_cons (d_var 5) d_nil)))
  (b_one (s_set (i := 5) S.nd rfl (by first | exact .inl rfl | exact .inr rfl) (d_ix (L2.hu_of hr) (d_var 0) (d_var 5)))))))
  (b_one (s_expr (d_bm PySem.F.plainAttrs_list PySem.F.slot_list_append PySem.F.type_list_append L2.mt_append rf_append (d_var 1) (d_cons (d_ct L2.call_tuple_of rf_tuple (by rfl) n_tuple boot_tuple (d_cons (d_var 4) d_nil)) d_nil)))))) b_nil)))
  (b_one (s_ret (d_var 1)))))
end Dn

set_option maxHeartbeats 4000000
namespace Dn
open PySem PySem.Spec PyProof.Rows
open L2 (PE PT PA PS PSs PG PGs PI Cx WX Takes HO Hp VK)
theorem ok_is_any_move {P : Program} {w : World} {K : PySem.W.Frag} {mg : Str → Option Value} {base : Heap} {f : Addr} {fd : FuncData} (F : L2.Fun K "is_any_move" "is_any_move" s_is_any_move f fd) (mf : mg "is_any_move" = some (.ref f)) (bf : L2.Binds K fd ["value"] []) (h_is_move_of : Has P w K mg base 2 "is_move_of" ["places", "value"] f_is_move_of) (c_MAX_PLACES : ∃ t, mg "MAX_PLACES" = some (.int 24 t)) (n_isinstance : mg "isinstance" = none) (n_len : mg "len" = none) (n_tuple : mg "tuple" = none) : Has P w K mg base 3 "is_any_move" ["value"] f_is_any_move := by
  obtain ⟨g_is_move_of, e_is_move_of, F0_is_move_of, m_is_move_of, k_is_move_of, b_is_move_of⟩ := h_is_move_of
  have F_is_move_of := fn_mono F0_is_move_of (by decide : 2 ≤ 2)
  refine ⟨f, _, fn_ok F sc_is_any_move (by decide) fun cdv A outer s H E hr => ?_, mf, F.kp, bf⟩
  have S := sc_is_any_move
  have tk := takes_cx (P := P) (w := w) (K := K) (mg := mg) (base := base) (N := ["value"]) (qual := "is_any_move") (sc := L2.defScope s_is_any_move) (f := f) (cdv := cdv) (A := A) (outer := outer) (s := s) (H := H) (E := E)
  have pp := passes_cx (P := P) (w := w) (K := K) (mg := mg) (base := base) (N := ["value"]) (qual := "is_any_move") (sc := L2.defScope s_is_any_move) (f := f) (cdv := cdv) (A := A) (outer := outer) (s := s) (H := H) (E := E)
  exact (b_one (s_ret (d_and (d_cb L2.call_isi rf_isi (by rfl) n_isinstance boot_isinstance (d_cons (d_var 0) (d_cons (d_bty (by rfl) n_tuple rfl) d_nil))) (d_and (d_chain L2.op_le rf_cmp L2.op_le rf_cmp d_int (d_cb call_lenA rf_len (by rfl) n_len boot_len (d_cons (d_var 0) d_nil)) (d_gint (by rfl) c_MAX_PLACES)) (d_one (d_call (ps := ["places", "value"]) F_is_move_of hr (by rfl) m_is_move_of k_is_move_of b_is_move_of tk (d_cons (d_cb call_lenA rf_len (by rfl) n_len boot_len (d_cons (d_var 0) d_nil)) (d_cons (d_var 0) d_nil))))))))
end Dn

set_option maxHeartbeats 4000000
namespace Dn
open PySem PySem.Spec PyProof.Rows
open L2 (PE PT PA PS PSs PG PGs PI Cx WX Takes HO Hp VK)
theorem ok_is_integer {P : Program} {w : World} {K : PySem.W.Frag} {mg : Str → Option Value} {base : Heap} {f : Addr} {fd : FuncData} (F : L2.Fun K "is_integer" "is_integer" s_is_integer f fd) (mf : mg "is_integer" = some (.ref f)) (bf : L2.Binds K fd ["value"] []) (h_is_plain : Has P w K mg base 1 "is_plain" ["value"] f_is_plain) (c_FAR : ∃ t, mg "FAR" = some (.int 1000000000000000000000000000000000000000000000000000000000000 t)) : Has P w K mg base 2 "is_integer" ["value"] f_is_integer := by
  obtain ⟨g_is_plain, e_is_plain, F0_is_plain, m_is_plain, k_is_plain, b_is_plain⟩ := h_is_plain
  have F_is_plain := fn_mono F0_is_plain (by decide : 1 ≤ 1)
  refine ⟨f, _, fn_ok F sc_is_integer (by decide) fun cdv A outer s H E hr => ?_, mf, F.kp, bf⟩
  have S := sc_is_integer
  have tk := takes_cx (P := P) (w := w) (K := K) (mg := mg) (base := base) (N := ["value"]) (qual := "is_integer") (sc := L2.defScope s_is_integer) (f := f) (cdv := cdv) (A := A) (outer := outer) (s := s) (H := H) (E := E)
  have pp := passes_cx (P := P) (w := w) (K := K) (mg := mg) (base := base) (N := ["value"]) (qual := "is_integer") (sc := L2.defScope s_is_integer) (f := f) (cdv := cdv) (A := A) (outer := outer) (s := s) (H := H) (E := E)
  exact (b_one (s_ret (d_and (d_call (ps := ["value"]) F_is_plain hr (by rfl) m_is_plain k_is_plain b_is_plain tk (d_cons (d_var 0) d_nil)) (d_one (d_chain L2.op_lt rf_cmp L2.op_lt rf_cmp (d_un L2.un_neg rf_neg (d_gint (by rfl) c_FAR)) (d_var 0) (d_gint (by rfl) c_FAR))))))
end Dn

set_option maxHeartbeats 4000000
namespace Dn
open PySem PySem.Spec PyProof.Rows
open L2 (PE PT PA PS PSs PG PGs PI Cx WX Takes HO Hp VK)
theorem ok_is_move_of {P : Program} {w : World} {K : PySem.W.Frag} {mg : Str → Option Value} {base : Heap} {f : Addr} {fd : FuncData} (F : L2.Fun K "is_move_of" "is_move_of" s_is_move_of f fd) (mf : mg "is_move_of" = some (.ref f)) (bf : L2.Binds K fd ["places", "value"] []) (h_is_plain : Has P w K mg base 1 "is_plain" ["value"] f_is_plain) (n_all : mg "all" = none) (n_isinstance : mg "isinstance" = none) (n_len : mg "len" = none) (n_list : mg "list" = none) (n_range : mg "range" = none) (n_sorted : mg "sorted" = none) (n_tuple : mg "tuple" = none) : Has P w K mg base 2 "is_move_of" ["places", "value"] f_is_move_of := by
  obtain ⟨g_is_plain, e_is_plain, F0_is_plain, m_is_plain, k_is_plain, b_is_plain⟩ := h_is_plain
  have F_is_plain := fn_mono F0_is_plain (by decide : 1 ≤ 1)
  refine ⟨f, _, fn_ok F sc_is_move_of (by decide) fun cdv A outer s H E hr => ?_, mf, F.kp, bf⟩
  have S := sc_is_move_of
  have tk := takes_cx (P := P) (w := w) (K := K) (mg := mg) (base := base) (N := ["places", "value", "place"]) (qual := "is_move_of") (sc := L2.defScope s_is_move_of) (f := f) (cdv := cdv) (A := A) (outer := outer) (s := s) (H := H) (E := E)
  have pp := passes_cx (P := P) (w := w) (K := K) (mg := mg) (base := base) (N := ["places", "value", "place"]) (qual := "is_move_of") (sc := L2.defScope s_is_move_of) (f := f) (cdv := cdv) (A := A) (outer := outer) (s := s) (H := H) (E := E)
  exact (b_cons (s_if (t_w (w_or (t_not (t_val (d_cb L2.call_isi rf_isi (by rfl) n_isinstance boot_isinstance (d_cons (d_var 1) (d_cons (d_bty (by rfl) n_tuple rfl) d_nil))))) (w_or (t_cmp (L2.op_neD hr.units) rf_ne (d_cb call_lenA rf_len (by rfl) n_len boot_len (d_cons (d_var 1) d_nil)) (d_var 0) (by rfl)) (w_or1 (t_not (t_val (d_cb (L2.cr_all rfl) rf_all (by rfl) n_all boot_all (d_cons (d_lc rfl S.nd (i_seq (d_var 1)) (L2.blkOk_by (own := [("place", 2)]) (by first | rfl | decide +kernel)) (by intro _ _ _ _ _; exact (g_name (i := 2) S.nd rfl (by first | exact .inl rfl | exact .inr rfl))) (by decide) (by intro _ _ _ _ _; exact ts_nil) (by intro _ _ _ _ _; exact (d_call (ps := ["value"]) F_is_plain hr (by rfl) m_is_plain k_is_plain b_is_plain takes0 (d_cons (d_var 2) d_nil)))) d_nil)))))))) (b_one (s_ret d_bl)) b_nil)
  (b_one (s_ret (d_cmp (L2.op_eqD hr.units) rf_eq (d_cb call_sortedA rf_sorted (by rfl) n_sorted boot_sorted (d_cons (d_var 1) d_nil)) (d_lstRg rfl (by rfl) n_list (r_1 (by rfl) n_range (d_var 0))) (by rfl)))))
end Dn

set_option maxHeartbeats 4000000
namespace Dn
open PySem PySem.Spec PyProof.Rows
open L2 (PE PT PA PS PSs PG PGs PI Cx WX Takes HO Hp VK)
theorem ok_is_plain {P : Program} {w : World} {K : PySem.W.Frag} {mg : Str → Option Value} {base : Heap} {f : Addr} {fd : FuncData} (F : L2.Fun K "is_plain" "is_plain" s_is_plain f fd) (mf : mg "is_plain" = some (.ref f)) (bf : L2.Binds K fd ["value"] []) (n_bool : mg "bool" = none) (n_int : mg "int" = none) (n_isinstance : mg "isinstance" = none) : Has P w K mg base 1 "is_plain" ["value"] f_is_plain := by
  refine ⟨f, _, fn_ok F sc_is_plain (by decide) fun cdv A outer s H E hr => ?_, mf, F.kp, bf⟩
  have S := sc_is_plain
  have tk := takes_cx (P := P) (w := w) (K := K) (mg := mg) (base := base) (N := ["value"]) (qual := "is_plain") (sc := L2.defScope s_is_plain) (f := f) (cdv := cdv) (A := A) (outer := outer) (s := s) (H := H) (E := E)
  have pp := passes_cx (P := P) (w := w) (K := K) (mg := mg) (base := base) (N := ["value"]) (qual := "is_plain") (sc := L2.defScope s_is_plain) (f := f) (cdv := cdv) (A := A) (outer := outer) (s := s) (H := H) (E := E)
  exact (b_one (s_ret (d_and (d_cb L2.call_isi rf_isi (by rfl) n_isinstance boot_isinstance (d_cons (d_var 0) (d_cons (d_bty (by rfl) n_int rfl) d_nil))) (d_one (d_not (d_cb L2.call_isi rf_isi (by rfl) n_isinstance boot_isinstance (d_cons (d_var 0) (d_cons (d_bty (by rfl) n_bool rfl) d_nil))))))))
end Dn

set_option maxHeartbeats 4000000
namespace Dn
open PySem PySem.Spec PyProof.Rows
open L2 (PE PT PA PS PSs PG PGs PI Cx WX Takes HO Hp VK)
theorem ok_is_within {P : Program} {w : World} {K : PySem.W.Frag} {mg : Str → Option Value} {base : Heap} {f : Addr} {fd : FuncData} (F : L2.Fun K "is_within" "is_within" s_is_within f fd) (mf : mg "is_within" = some (.ref f)) (bf : L2.Binds K fd ["value", "low", "high"] []) (h_is_plain : Has P w K mg base 1 "is_plain" ["value"] f_is_plain) : Has P w K mg base 2 "is_within" ["value", "low", "high"] f_is_within := by
  obtain ⟨g_is_plain, e_is_plain, F0_is_plain, m_is_plain, k_is_plain, b_is_plain⟩ := h_is_plain
  have F_is_plain := fn_mono F0_is_plain (by decide : 1 ≤ 1)
  refine ⟨f, _, fn_ok F sc_is_within (by decide) fun cdv A outer s H E hr => ?_, mf, F.kp, bf⟩
  have S := sc_is_within
  have tk := takes_cx (P := P) (w := w) (K := K) (mg := mg) (base := base) (N := ["value", "low", "high"]) (qual := "is_within") (sc := L2.defScope s_is_within) (f := f) (cdv := cdv) (A := A) (outer := outer) (s := s) (H := H) (E := E)
  have pp := passes_cx (P := P) (w := w) (K := K) (mg := mg) (base := base) (N := ["value", "low", "high"]) (qual := "is_within") (sc := L2.defScope s_is_within) (f := f) (cdv := cdv) (A := A) (outer := outer) (s := s) (H := H) (E := E)
  exact (b_one (s_ret (d_and (d_call (ps := ["value"]) F_is_plain hr (by rfl) m_is_plain k_is_plain b_is_plain tk (d_cons (d_var 0) d_nil)) (d_one (d_chain L2.op_le rf_cmp L2.op_le rf_cmp (d_var 1) (d_var 0) (d_var 2))))))
end Dn

set_option maxHeartbeats 4000000
namespace Dn
open PySem PySem.Spec PyProof.Rows
open L2 (PE PT PA PS PSs PG PGs PI Cx WX Takes HO Hp VK)
theorem ok_kinds_text {P : Program} {w : World} {K : PySem.W.Frag} {mg : Str → Option Value} {base : Heap} {f : Addr} {fd : FuncData} (F : L2.Fun K "kinds_text" "kinds_text" s_kinds_text f fd) (mf : mg "kinds_text" = some (.ref f)) (bf : L2.Binds K fd ["kinds"] []) (h_term_text : Has P w K mg base 1 "term_text" ["number", "index"] f_term_text) (c_NOTHING : ∃ t, mg "NOTHING" = some (.str "0" t)) (n_abs : mg "abs" = none) (n_enumerate : mg "enumerate" = none) : Has P w K mg base 2 "kinds_text" ["kinds"] f_kinds_text := by
  obtain ⟨g_term_text, e_term_text, F0_term_text, m_term_text, k_term_text, b_term_text⟩ := h_term_text
  have F_term_text := fn_mono F0_term_text (by decide : 1 ≤ 1)
  refine ⟨f, _, fn_ok F sc_kinds_text (by decide) fun cdv A outer s H E hr => ?_, mf, F.kp, bf⟩
  have S := sc_kinds_text
  have tk := takes_cx (P := P) (w := w) (K := K) (mg := mg) (base := base) (N := ["kinds", "found", "index", "number", "sign"]) (qual := "kinds_text") (sc := L2.defScope s_kinds_text) (f := f) (cdv := cdv) (A := A) (outer := outer) (s := s) (H := H) (E := E)
  have pp := passes_cx (P := P) (w := w) (K := K) (mg := mg) (base := base) (N := ["kinds", "found", "index", "number", "sign"]) (qual := "kinds_text") (sc := L2.defScope s_kinds_text) (f := f) (cdv := cdv) (A := A) (outer := outer) (s := s) (H := H) (E := E)
  exact (b_cons (s_set (i := 1) S.nd rfl (by first | exact .inl rfl | exact .inr rfl) d_str)
  (b_cons (s_for pp rfl (i_en (by rfl) n_enumerate (d_cons (d_var 0) d_nil)) (g_tup rfl (gs_cons (g_name (i := 2) S.nd rfl (by first | exact .inl rfl | exact .inr rfl)) (gs_cons (g_name (i := 3) S.nd rfl (by first | exact .inl rfl | exact .inr rfl)) gs_nil))) (b_one (s_if (t_cmp (L2.op_neD hr.units) rf_ne (d_var 3) d_int (by rfl)) (b_cons (s_set (i := 4) S.nd rfl (by first | exact .inl rfl | exact .inr rfl) (d_if (t_cmp (L2.op_eqD hr.units) rf_eq (d_var 1) d_str (by rfl)) (d_if (t_cmp L2.op_lt rf_cmp (d_var 3) d_int (by rfl)) d_str d_str) (d_if (t_cmp L2.op_lt rf_cmp (d_var 3) d_int (by rfl)) d_str d_str)))
  (b_one (s_set (i := 1) S.nd rfl (by first | exact .inl rfl | exact .inr rfl) (d_bin op_addA rf_add (d_bin op_addA rf_add (d_var 1) (d_var 4)) (d_call (ps := ["number", "index"]) F_term_text hr (by rfl) m_term_text k_term_text b_term_text tk (d_cons (d_cb L2.call_abs rf_abs (by rfl) n_abs boot_abs (d_cons (d_var 3) d_nil)) (d_cons (d_var 2) d_nil))))))) b_nil)))
  (b_one (s_ret (d_orT (d_var 1) (d_one (d_gstr (by rfl) c_NOTHING)))))))
end Dn

set_option maxHeartbeats 4000000
namespace Dn
open PySem PySem.Spec PyProof.Rows
open L2 (PE PT PA PS PSs PG PGs PI Cx WX Takes HO Hp VK)
theorem ok_law {P : Program} {w : World} {K : PySem.W.Frag} {mg : Str → Option Value} {base : Heap} {T__law_written_right : Addr} {T__law_read_right : Addr} {T_law : Addr} {f cc : Addr} {oc kV dc pm ct : Value} {od an : Option Addr} {sl : Array (Option Value)} (lk : K.lookup f = some ⟨oc, od, .func (PySem.W.fnOf "law" "law" (L2.defArgs s_law) (L2.defBody s_law) (L2.defScope s_law) .none kV dc pm an (.ref cc) ct), sl⟩) (hcd : PySem.W.codeIn K (.ref cc) "law" = true) (h__law_bag : Has P w K mg base 1 "_law_bag" ["_law_script", "_law_spot"] f__law_bag) (h__law_read_right : HasG P w K mg base 7 "_law_read_right" ["_law_bag_here"] (f__law_read_right T__law_read_right)) (h__law_written_right : HasG P w K mg base 8 "_law_written_right" ["_law_bag_here"] (f__law_written_right T__law_written_right)) (h_read_kinds : Has P w K mg base 4 "read_kinds" ["text", "length"] f_read_kinds) (h_read_row : Has P w K mg base 3 "read_row" ["text"] f_read_row) (h_write_kinds : Has P w K mg base 4 "write_kinds" ["kinds"] f_write_kinds) (h_write_row : Has P w K mg base 4 "write_row" ["row"] f_write_row) (n_len : mg "len" = none) (n_max : mg "max" = none) (n_min : mg "min" = none) (n_range : mg "range" = none) (w__law_word : HasW K mg "_law_word" F__law_word) (TB : LamX.TabB base mg cc T_law) : FnDG P w K mg base 9 f (PySem.W.fnOf "law" "law" (L2.defArgs s_law) (L2.defBody s_law) (L2.defScope s_law) .none kV dc pm an (.ref cc) ct) ["_law_script"] (f_law T__law_written_right T__law_read_right T_law) := by
  obtain ⟨g__law_bag, e__law_bag, F0__law_bag, m__law_bag, k__law_bag, b__law_bag⟩ := h__law_bag
  have F__law_bag := fn_mono F0__law_bag (by decide : 1 ≤ 8)
  obtain ⟨g__law_read_right, e__law_read_right, F0__law_read_right, m__law_read_right, k__law_read_right, b__law_read_right⟩ := h__law_read_right
  have F__law_read_right := FnG.mono F0__law_read_right (by decide : 7 ≤ 8)
  obtain ⟨g__law_written_right, e__law_written_right, F0__law_written_right, m__law_written_right, k__law_written_right, b__law_written_right⟩ := h__law_written_right
  have F__law_written_right := FnG.mono F0__law_written_right (by decide : 8 ≤ 8)
  obtain ⟨g_read_kinds, e_read_kinds, F0_read_kinds, m_read_kinds, k_read_kinds, b_read_kinds⟩ := h_read_kinds
  have F_read_kinds := fn_mono F0_read_kinds (by decide : 4 ≤ 8)
  obtain ⟨g_read_row, e_read_row, F0_read_row, m_read_row, k_read_row, b_read_row⟩ := h_read_row
  have F_read_row := fn_mono F0_read_row (by decide : 3 ≤ 8)
  obtain ⟨g_write_kinds, e_write_kinds, F0_write_kinds, m_write_kinds, k_write_kinds, b_write_kinds⟩ := h_write_kinds
  have F_write_kinds := fn_mono F0_write_kinds (by decide : 4 ≤ 8)
  obtain ⟨g_write_row, e_write_row, F0_write_row, m_write_row, k_write_row, b_write_row⟩ := h_write_row
  have F_write_row := fn_mono F0_write_row (by decide : 4 ≤ 8)
  refine fn_okG lk hcd sc_law (by decide) fun A outer s H E quiet hr => ?_
  have S := sc_law
  have tk := takes_cx (P := P) (w := w) (K := K) (mg := mg) (base := base) (N := ["_law_script", "_law_spot", "_law_bag_here", "_law_full", "_law_told"]) (qual := "law") (sc := L2.defScope s_law) (f := f) (cdv := .ref cc) (A := A) (outer := outer) (s := s) (H := H) (E := E)
  have pp := passes_cx (P := P) (w := w) (K := K) (mg := mg) (base := base) (N := ["_law_script", "_law_spot", "_law_bag_here", "_law_full", "_law_told"]) (qual := "law") (sc := L2.defScope s_law) (f := f) (cdv := .ref cc) (A := A) (outer := outer) (s := s) (H := H) (E := E)
  exact (b_cons (s_for pp rfl (i_rg1 (by rfl) n_range (d_cons (d_cb (call_maxA rfl) rf_max (by rfl) n_max boot_max (d_cons d_int (d_cons (d_cb (call_minA rfl) rf_min (by rfl) n_min boot_min (d_cons d_int (d_cons (d_cb call_lenA rf_len (by rfl) n_len boot_len (d_cons (d_var 0) d_nil)) d_nil))) d_nil))) d_nil)) (g_name (i := 1) S.nd rfl (by first | exact .inl rfl | exact .inr rfl)) (b_cons (s_set (i := 2) S.nd rfl (by first | exact .inl rfl | exact .inr rfl) (d_call (ps := ["_law_script", "_law_spot"]) F__law_bag hr (by rfl) m__law_bag k__law_bag b__law_bag tk (d_cons (d_var 0) (d_cons (d_var 1) d_nil))))
  (b_one (s_if (t_w (w_or (t_not (t_val (d_callG (ps := ["_law_bag_here"]) F__law_written_right quiet hr (by rfl) m__law_written_right k__law_written_right b__law_written_right tk (d_cons (d_var 2) d_nil)))) (w_or1 (t_not (t_val (d_callG (ps := ["_law_bag_here"]) F__law_read_right quiet hr (by rfl) m__law_read_right k__law_read_right b__law_read_right tk (d_cons (d_var 2) d_nil))))))) (b_one (s_ret d_bl)) b_nil))))
  (b_cons (s_set (i := 3) S.nd rfl (by first | exact .inl rfl | exact .inr rfl) (d_bm PySem.F.plainAttrs_str PySem.F.slot_str_join PySem.F.type_str_join L2.mt_join rf_join d_str (d_cons (d_bin op_mulA rf_mul (d_lst (d_cons (d_bin op_mulA rf_mul d_str d_int) d_nil)) d_int) d_nil)))
  (b_cons (s_set (i := 4) S.nd rfl (by first | exact .inl rfl | exact .inr rfl) (d_lst (d_cons (d_lam (k := 3) (i := 2) w__law_word quiet TB rfl (hr.mono (by decide)) (by rfl) (LamX.lamS_by (by show LamX.lamSB (L2.defScope s_law) _ = true; decide +kernel)) (by rfl) (fun _ _ _ _ _ => by rfl) (fun A outer s H E f c1 hr => (d_call (ps := ["text"]) (fn_mono (k := 3) F0_read_row (by decide)) hr (by rfl) m_read_row k_read_row b_read_row takes_lam (d_cons (d_var 3) d_nil)))) (d_cons (d_cb call_lenA rf_len (by rfl) n_len boot_len (d_cons (d_var 3) d_nil)) d_nil))))
  (b_cons (s_expr (d_bm PySem.F.plainAttrs_list PySem.F.slot_list_append PySem.F.type_list_append L2.mt_append rf_append (d_var 4) (d_cons (d_lam (k := 3) (i := 2) w__law_word quiet TB rfl (hr.mono (by decide)) (by rfl) (LamX.lamS_by (by show LamX.lamSB (L2.defScope s_law) _ = true; decide +kernel)) (by rfl) (fun _ _ _ _ _ => by rfl) (fun A outer s H E f c1 hr => (d_call (ps := ["text"]) (fn_mono (k := 3) F0_read_row (by decide)) hr (by rfl) m_read_row k_read_row b_read_row takes_lam (d_cons (d_bin op_addA rf_add (d_var 3) d_str) d_nil)))) d_nil)))
  (b_cons (s_expr (d_bm PySem.F.plainAttrs_list PySem.F.slot_list_append PySem.F.type_list_append L2.mt_append rf_append (d_var 4) (d_cons (d_lam (k := 3) (i := 2) w__law_word quiet TB rfl (hr.mono (by decide)) (by rfl) (LamX.lamS_by (by show LamX.lamSB (L2.defScope s_law) _ = true; decide +kernel)) (by rfl) (fun _ _ _ _ _ => by rfl) (fun A outer s H E f c1 hr => (d_call (ps := ["text"]) (fn_mono (k := 3) F0_read_row (by decide)) hr (by rfl) m_read_row k_read_row b_read_row takes_lam (d_cons (d_bin op_addA rf_add (d_var 3) d_str) d_nil)))) d_nil)))
  (b_cons (s_expr (d_bm PySem.F.plainAttrs_list PySem.F.slot_list_append PySem.F.type_list_append L2.mt_append rf_append (d_var 4) (d_cons (d_lam (k := 4) (i := 2) w__law_word quiet TB rfl (hr.mono (by decide)) (by rfl) (LamX.lamS_by (by show LamX.lamSB (L2.defScope s_law) _ = true; decide +kernel)) (by rfl) (fun _ _ _ _ _ => by rfl) (fun A outer s H E f c1 hr => (d_call (ps := ["text", "length"]) (fn_mono (k := 4) F0_read_kinds (by decide)) hr (by rfl) m_read_kinds k_read_kinds b_read_kinds takes_lam (d_cons (d_bin op_addA rf_add d_str (d_bin op_mulA rf_mul d_str d_int)) (d_cons d_int d_nil))))) d_nil)))
  (b_cons (s_expr (d_bm PySem.F.plainAttrs_list PySem.F.slot_list_append PySem.F.type_list_append L2.mt_append rf_append (d_var 4) (d_cons (d_lam (k := 4) (i := 2) w__law_word quiet TB rfl (hr.mono (by decide)) (by rfl) (LamX.lamS_by (by show LamX.lamSB (L2.defScope s_law) _ = true; decide +kernel)) (by rfl) (fun _ _ _ _ _ => by rfl) (fun A outer s H E f c1 hr => (d_call (ps := ["row"]) (fn_mono (k := 4) F0_write_row (by decide)) hr (by rfl) m_write_row k_write_row b_write_row takes_lam (d_cons (d_tup d_nil) d_nil)))) d_nil)))
  (b_cons (s_expr (d_bm PySem.F.plainAttrs_list PySem.F.slot_list_append PySem.F.type_list_append L2.mt_append rf_append (d_var 4) (d_cons (d_lam (k := 4) (i := 2) w__law_word quiet TB rfl (hr.mono (by decide)) (by rfl) (LamX.lamS_by (by show LamX.lamSB (L2.defScope s_law) _ = true; decide +kernel)) (by rfl) (fun _ _ _ _ _ => by rfl) (fun A outer s H E f c1 hr => (d_call (ps := ["kinds"]) (fn_mono (k := 4) F0_write_kinds (by decide)) hr (by rfl) m_write_kinds k_write_kinds b_write_kinds takes_lam (d_cons (d_bin op_mulA rf_mul (d_tup (d_cons d_int d_nil)) d_int) d_nil)))) d_nil)))
  (b_one (s_ret (d_cmp (L2.op_eqD hr.units) rf_eq (d_var 4) (d_lst (d_cons d_str (d_cons d_int (d_cons d_str (d_cons d_str (d_cons d_str (d_cons d_str (d_cons d_str d_nil)))))))) (by rfl))))))))))))
end Dn

set_option maxHeartbeats 4000000
namespace Dn
open PySem PySem.Spec PyProof.Rows
open L2 (PE PT PA PS PSs PG PGs PI Cx WX Takes HO Hp VK)
theorem ok__law_bag {P : Program} {w : World} {K : PySem.W.Frag} {mg : Str → Option Value} {base : Heap} {f : Addr} {fd : FuncData} (F : L2.Fun K "_law_bag" "_law_bag" s__law_bag f fd) (mf : mg "_law_bag" = some (.ref f)) (bf : L2.Binds K fd ["_law_script", "_law_spot"] []) (n_abs : mg "abs" = none) (n_int : mg "int" = none) (n_len : mg "len" = none) (n_max : mg "max" = none) (n_sum : mg "sum" = none) : Has P w K mg base 1 "_law_bag" ["_law_script", "_law_spot"] f__law_bag := by
  refine ⟨f, _, fn_ok F sc__law_bag (by decide) fun cdv A outer s H E hr => ?_, mf, F.kp, bf⟩
  have S := sc__law_bag
  have tk := takes_cx (P := P) (w := w) (K := K) (mg := mg) (base := base) (N := ["_law_script", "_law_spot", "_law_cell", "_law_great", "_law_mixed"]) (qual := "_law_bag") (sc := L2.defScope s__law_bag) (f := f) (cdv := cdv) (A := A) (outer := outer) (s := s) (H := H) (E := E)
  have pp := passes_cx (P := P) (w := w) (K := K) (mg := mg) (base := base) (N := ["_law_script", "_law_spot", "_law_cell", "_law_great", "_law_mixed"]) (qual := "_law_bag") (sc := L2.defScope s__law_bag) (f := f) (cdv := cdv) (A := A) (outer := outer) (s := s) (H := H) (E := E)
  exact (b_cons (s_set (i := 2) S.nd rfl (by first | exact .inl rfl | exact .inr rfl) (d_if (t_cmp L2.op_lt rf_cmp (d_var 1) (d_cb call_lenA rf_len (by rfl) n_len boot_len (d_cons (d_var 0) d_nil)) (by rfl)) (d_ix (L2.hu_of hr) (d_var 0) (d_var 1)) (d_bin op_addA rf_add (d_bin op_addA rf_add (d_cb (L2.cr_sum rfl) rf_sum (by rfl) n_sum boot_sum (d_cons (d_slice (d_var 0) o_none (o_some d_int)) d_nil)) (d_bin op_mulA rf_mul d_int (d_var 1))) d_int)))
  (b_cons (s_set (i := 3) S.nd rfl (by first | exact .inl rfl | exact .inr rfl) (d_bin L2.op_mod rf_mod (d_ct call_intA rf_intA (by rfl) n_int boot_int (d_cons (d_cb L2.call_abs rf_abs (by rfl) n_abs boot_abs (d_cons (d_var 2) d_nil)) d_nil)) (d_bin op_powW rf_pow (d_bin op_powW rf_pow d_int d_int) d_int)))
  (b_cons (s_set (i := 4) S.nd rfl (by first | exact .inl rfl | exact .inr rfl) (d_bin op_addA rf_add (d_bin op_addA rf_add (d_bin op_addA rf_add (d_bin op_mulA rf_mul (d_bin L2.op_mod rf_mod (d_ct call_intA rf_intA (by rfl) n_int boot_int (d_cons (d_var 3) d_nil)) d_int) d_int) (d_bin op_mulA rf_mul d_int (d_var 1))) (d_bin op_mulA rf_mul d_int (d_ct call_intA rf_intA (by rfl) n_int boot_int (d_cons (d_cmp L2.op_lt rf_cmp (d_var 2) d_int (by rfl)) d_nil)))) d_int))
  (b_one (s_ret (d_lst (d_cons (d_cb (call_maxA rfl) rf_max (by rfl) n_max boot_max (d_cons d_int (d_cons (d_bin L2.op_sub rf_sub (d_var 3) (d_bin op_powW rf_pow d_int d_int)) d_nil))) (d_cons (d_bin L2.op_mod rf_mod (d_ct call_intA rf_intA (by rfl) n_int boot_int (d_cons (d_var 4) d_nil)) d_int) (d_cons d_int d_nil)))))))))
end Dn

set_option maxHeartbeats 4000000
namespace Dn
open PySem PySem.Spec PyProof.Rows
open L2 (PE PT PA PS PSs PG PGs PI Cx WX Takes HO Hp VK)
theorem ok__law_grab {P : Program} {w : World} {K : PySem.W.Frag} {mg : Str → Option Value} {base : Heap} {f : Addr} {fd : FuncData} (F : L2.Fun K "_law_grab" "_law_grab" s__law_grab f fd) (mf : mg "_law_grab" = some (.ref f)) (bf : L2.Binds K fd ["_law_bag_here", "_law_total"] []) (n_int : mg "int" = none) : Has P w K mg base 1 "_law_grab" ["_law_bag_here", "_law_total"] f__law_grab := by
  refine ⟨f, _, fn_ok F sc__law_grab (by decide) fun cdv A outer s H E hr => ?_, mf, F.kp, bf⟩
  have S := sc__law_grab
  have tk := takes_cx (P := P) (w := w) (K := K) (mg := mg) (base := base) (N := ["_law_bag_here", "_law_total", "_law_found", "_law_one", "_law_two"]) (qual := "_law_grab") (sc := L2.defScope s__law_grab) (f := f) (cdv := cdv) (A := A) (outer := outer) (s := s) (H := H) (E := E)
  have pp := passes_cx (P := P) (w := w) (K := K) (mg := mg) (base := base) (N := ["_law_bag_here", "_law_total", "_law_found", "_law_one", "_law_two"]) (qual := "_law_grab") (sc := L2.defScope s__law_grab) (f := f) (cdv := cdv) (A := A) (outer := outer) (s := s) (H := H) (E := E)
  exact (b_cons (s_if (t_cmp L2.op_gt rf_cmp (d_ix (L2.hu_of hr) (d_var 0) d_int) d_int (by rfl)) (b_cons (s_set (i := 2) S.nd rfl (by first | exact .inl rfl | exact .inr rfl) (d_bin L2.op_mod rf_mod (d_ct call_intA rf_intA (by rfl) n_int boot_int (d_cons (d_ix (L2.hu_of hr) (d_var 0) d_int) d_nil)) (d_var 1)))
  (b_cons (s_setIt (L2.hu_of hr) (d_var 0) d_int (d_bin L2.op_fdivW rf_div (d_ix (L2.hu_of hr) (d_var 0) d_int) (d_var 1)))
  (b_one (s_ret (d_var 2))))) b_nil)
  (b_cons (s_setIt (L2.hu_of hr) (d_var 0) d_int (d_bin op_addA rf_add (d_ix (L2.hu_of hr) (d_var 0) d_int) d_int))
  (b_cons (s_set (i := 3) S.nd rfl (by first | exact .inl rfl | exact .inr rfl) (d_bin L2.op_mod rf_mod (d_ct call_intA rf_intA (by rfl) n_int boot_int (d_cons (d_bin op_addA rf_add (d_ix (L2.hu_of hr) (d_var 0) d_int) (d_bin op_mulA rf_mul d_int (d_ix (L2.hu_of hr) (d_var 0) d_int))) d_nil)) d_int))
  (b_cons (s_set (i := 4) S.nd rfl (by first | exact .inl rfl | exact .inr rfl) (d_bin op_addA rf_add (d_bin op_mulA rf_mul (d_bin L2.op_mod rf_mod (d_ct call_intA rf_intA (by rfl) n_int boot_int (d_cons (d_bin op_mulA rf_mul (d_var 3) (d_var 3)) d_nil)) d_int) (d_var 3)) (d_bin op_mulA rf_mul d_int (d_ix (L2.hu_of hr) (d_var 0) d_int))))
  (b_one (s_ret (d_bin L2.op_mod rf_mod (d_ct call_intA rf_intA (by rfl) n_int boot_int (d_cons (d_bin L2.op_fdivW rf_div (d_bin L2.op_mod rf_mod (d_ct call_intA rf_intA (by rfl) n_int boot_int (d_cons (d_var 4) d_nil)) d_int) d_int) d_nil)) (d_var 1))))))))
end Dn

set_option maxHeartbeats 4000000
namespace Dn
open PySem PySem.Spec PyProof.Rows
open L2 (PE PT PA PS PSs PG PGs PI Cx WX Takes HO Hp VK)
theorem ok__law_one_of {P : Program} {w : World} {K : PySem.W.Frag} {mg : Str → Option Value} {base : Heap} {f : Addr} {fd : FuncData} (F : L2.Fun K "_law_one_of" "_law_one_of" s__law_one_of f fd) (mf : mg "_law_one_of" = some (.ref f)) (bf : L2.Binds K fd ["_law_bag_here", "_law_items"] []) (h__law_grab : Has P w K mg base 1 "_law_grab" ["_law_bag_here", "_law_total"] f__law_grab) (n_len : mg "len" = none) : Has P w K mg base 2 "_law_one_of" ["_law_bag_here", "_law_items"] f__law_one_of := by
  obtain ⟨g__law_grab, e__law_grab, F0__law_grab, m__law_grab, k__law_grab, b__law_grab⟩ := h__law_grab
  have F__law_grab := fn_mono F0__law_grab (by decide : 1 ≤ 1)
  refine ⟨f, _, fn_ok F sc__law_one_of (by decide) fun cdv A outer s H E hr => ?_, mf, F.kp, bf⟩
  have S := sc__law_one_of
  have tk := takes_cx (P := P) (w := w) (K := K) (mg := mg) (base := base) (N := ["_law_bag_here", "_law_items"]) (qual := "_law_one_of") (sc := L2.defScope s__law_one_of) (f := f) (cdv := cdv) (A := A) (outer := outer) (s := s) (H := H) (E := E)
  have pp := passes_cx (P := P) (w := w) (K := K) (mg := mg) (base := base) (N := ["_law_bag_here", "_law_items"]) (qual := "_law_one_of") (sc := L2.defScope s__law_one_of) (f := f) (cdv := cdv) (A := A) (outer := outer) (s := s) (H := H) (E := E)
  exact (b_one (s_ret (d_ix (L2.hu_of hr) (d_var 1) (d_call (ps := ["_law_bag_here", "_law_total"]) F__law_grab hr (by rfl) m__law_grab k__law_grab b__law_grab tk (d_cons (d_var 0) (d_cons (d_cb call_lenA rf_len (by rfl) n_len boot_len (d_cons (d_var 1) d_nil)) d_nil))))))
end Dn

set_option maxHeartbeats 4000000
namespace Dn
open PySem PySem.Spec PyProof.Rows
open L2 (PE PT PA PS PSs PG PGs PI Cx WX Takes HO Hp VK)
theorem ok__law_read_right {P : Program} {w : World} {K : PySem.W.Frag} {mg : Str → Option Value} {base : Heap} {T__law_read_right : Addr} {f cc : Addr} {oc kV dc pm ct : Value} {od an : Option Addr} {sl : Array (Option Value)} (lk : K.lookup f = some ⟨oc, od, .func (PySem.W.fnOf "_law_read_right" "_law_read_right" (L2.defArgs s__law_read_right) (L2.defBody s__law_read_right) (L2.defScope s__law_read_right) .none kV dc pm an (.ref cc) ct), sl⟩) (hcd : PySem.W.codeIn K (.ref cc) "_law_read_right" = true) (kp : PySem.W.keepIn K (.ref f) = true) (mf : mg "_law_read_right" = some (.ref f)) (bf : L2.Binds K (PySem.W.fnOf "_law_read_right" "_law_read_right" (L2.defArgs s__law_read_right) (L2.defBody s__law_read_right) (L2.defScope s__law_read_right) .none kV dc pm an (.ref cc) ct) ["_law_bag_here"] []) (h__law_one_of : Has P w K mg base 2 "_law_one_of" ["_law_bag_here", "_law_items"] f__law_one_of) (h_read_group : Has P w K mg base 2 "read_group" ["text"] f_read_group) (h_read_kinds : Has P w K mg base 4 "read_kinds" ["text", "length"] f_read_kinds) (h_read_move : Has P w K mg base 4 "read_move" ["text", "places"] f_read_move) (h_read_row : Has P w K mg base 3 "read_row" ["text"] f_read_row) (n_repr : mg "repr" = none) (w__law_word : HasW K mg "_law_word" F__law_word) (TB : LamX.TabB base mg cc T__law_read_right) : HasG P w K mg base 7 "_law_read_right" ["_law_bag_here"] (f__law_read_right T__law_read_right) := by
  obtain ⟨g__law_one_of, e__law_one_of, F0__law_one_of, m__law_one_of, k__law_one_of, b__law_one_of⟩ := h__law_one_of
  have F__law_one_of := fn_mono F0__law_one_of (by decide : 2 ≤ 6)
  obtain ⟨g_read_group, e_read_group, F0_read_group, m_read_group, k_read_group, b_read_group⟩ := h_read_group
  have F_read_group := fn_mono F0_read_group (by decide : 2 ≤ 6)
  obtain ⟨g_read_kinds, e_read_kinds, F0_read_kinds, m_read_kinds, k_read_kinds, b_read_kinds⟩ := h_read_kinds
  have F_read_kinds := fn_mono F0_read_kinds (by decide : 4 ≤ 6)
  obtain ⟨g_read_move, e_read_move, F0_read_move, m_read_move, k_read_move, b_read_move⟩ := h_read_move
  have F_read_move := fn_mono F0_read_move (by decide : 4 ≤ 6)
  obtain ⟨g_read_row, e_read_row, F0_read_row, m_read_row, k_read_row, b_read_row⟩ := h_read_row
  have F_read_row := fn_mono F0_read_row (by decide : 3 ≤ 6)
  refine ⟨f, _, fn_okG lk hcd sc__law_read_right (by decide) fun A outer s H E quiet hr => ?_, mf, kp, bf⟩
  have S := sc__law_read_right
  have tk := takes_cx (P := P) (w := w) (K := K) (mg := mg) (base := base) (N := ["_law_bag_here", "_law_none", "_law_places", "_law_length", "_law_odd", "_law_told", "_law_due"]) (qual := "_law_read_right") (sc := L2.defScope s__law_read_right) (f := f) (cdv := .ref cc) (A := A) (outer := outer) (s := s) (H := H) (E := E)
  have pp := passes_cx (P := P) (w := w) (K := K) (mg := mg) (base := base) (N := ["_law_bag_here", "_law_none", "_law_places", "_law_length", "_law_odd", "_law_told", "_law_due"]) (qual := "_law_read_right") (sc := L2.defScope s__law_read_right) (f := f) (cdv := .ref cc) (A := A) (outer := outer) (s := s) (H := H) (E := E)
  exact (b_cons (s_set (i := 1) S.nd rfl (by first | exact .inl rfl | exact .inr rfl) (d_call (ps := ["_law_bag_here", "_law_items"]) F__law_one_of hr (by rfl) m__law_one_of k__law_one_of b__law_one_of tk (d_cons (d_var 0) (d_cons (d_lst (d_cons d_non (d_cons d_int (d_cons (d_tup d_nil) (d_cons (d_tup (d_cons d_str d_nil)) (d_cons (d_lst (d_cons d_str d_nil)) (d_cons d_dnewK (d_cons d_bl (d_cons (d_bin op_mulA rf_mul d_str d_int) (d_cons (d_bin op_mulA rf_mul d_str d_int) (d_cons (d_bin op_mulA rf_mul d_str d_int) (d_cons (d_tup (d_cons d_str d_nil)) d_nil)))))))))))) d_nil))))
  (b_cons (s_set (i := 2) S.nd rfl (by first | exact .inl rfl | exact .inr rfl) (d_call (ps := ["_law_bag_here", "_law_items"]) F__law_one_of hr (by rfl) m__law_one_of k__law_one_of b__law_one_of tk (d_cons (d_var 0) (d_cons (d_lst (d_cons d_int (d_cons d_int (d_cons (d_un L2.un_neg rf_neg d_int) (d_cons d_non (d_cons d_bl (d_cons d_str (d_cons (d_tup (d_cons d_int d_nil)) (d_cons (d_bin op_powW rf_pow d_int d_int) d_nil))))))))) d_nil))))
  (b_cons (s_set (i := 3) S.nd rfl (by first | exact .inl rfl | exact .inr rfl) (d_call (ps := ["_law_bag_here", "_law_items"]) F__law_one_of hr (by rfl) m__law_one_of k__law_one_of b__law_one_of tk (d_cons (d_var 0) (d_cons (d_lst (d_cons d_int (d_cons d_int (d_cons (d_un L2.un_neg rf_neg d_int) (d_cons d_non (d_cons d_bl (d_cons d_str (d_cons (d_tup (d_cons d_int d_nil)) (d_cons (d_bin op_powW rf_pow d_int d_int) d_nil))))))))) d_nil))))
  (b_cons (s_set (i := 4) S.nd rfl (by first | exact .inl rfl | exact .inr rfl) (d_call (ps := ["_law_bag_here", "_law_items"]) F__law_one_of hr (by rfl) m__law_one_of k__law_one_of b__law_one_of tk (d_cons (d_var 0) (d_cons (d_lst (d_cons d_str (d_cons d_str (d_cons d_str (d_cons d_str (d_cons d_str (d_cons d_str d_nil))))))) d_nil))))
  (b_cons (s_set (i := 5) S.nd rfl (by first | exact .inl rfl | exact .inr rfl) (d_lst (d_cons (d_lam (k := 4) (i := 1) w__law_word quiet TB rfl (hr.mono (by decide)) (by rfl) (LamX.lamS_by (by show LamX.lamSB (L2.defScope s__law_read_right) _ = true; decide +kernel)) (by rfl) (fun _ _ _ _ _ => by rfl) (fun A outer s H E f c1 hr => (d_call (ps := ["text", "places"]) (fn_mono (k := 4) F0_read_move (by decide)) hr (by rfl) m_read_move k_read_move b_read_move takes_lam (d_cons (d_var 1) (d_cons (d_var 2) d_nil))))) d_nil)))
  (b_cons (s_expr (d_bm PySem.F.plainAttrs_list PySem.F.slot_list_append PySem.F.type_list_append L2.mt_append rf_append (d_var 5) (d_cons (d_lam (k := 4) (i := 1) w__law_word quiet TB rfl (hr.mono (by decide)) (by rfl) (LamX.lamS_by (by show LamX.lamSB (L2.defScope s__law_read_right) _ = true; decide +kernel)) (by rfl) (fun _ _ _ _ _ => by rfl) (fun A outer s H E f c1 hr => (d_call (ps := ["text", "places"]) (fn_mono (k := 4) F0_read_move (by decide)) hr (by rfl) m_read_move k_read_move b_read_move takes_lam (d_cons (d_var 4) (d_cons (d_var 2) d_nil))))) d_nil)))
  (b_cons (s_expr (d_bm PySem.F.plainAttrs_list PySem.F.slot_list_append PySem.F.type_list_append L2.mt_append rf_append (d_var 5) (d_cons (d_lam (k := 4) (i := 1) w__law_word quiet TB rfl (hr.mono (by decide)) (by rfl) (LamX.lamS_by (by show LamX.lamSB (L2.defScope s__law_read_right) _ = true; decide +kernel)) (by rfl) (fun _ _ _ _ _ => by rfl) (fun A outer s H E f c1 hr => (d_call (ps := ["text", "places"]) (fn_mono (k := 4) F0_read_move (by decide)) hr (by rfl) m_read_move k_read_move b_read_move takes_lam (d_cons d_str (d_cons (d_var 2) d_nil))))) d_nil)))
  (b_cons (s_expr (d_bm PySem.F.plainAttrs_list PySem.F.slot_list_append PySem.F.type_list_append L2.mt_append rf_append (d_var 5) (d_cons (d_lam (k := 4) (i := 1) w__law_word quiet TB rfl (hr.mono (by decide)) (by rfl) (LamX.lamS_by (by show LamX.lamSB (L2.defScope s__law_read_right) _ = true; decide +kernel)) (by rfl) (fun _ _ _ _ _ => by rfl) (fun A outer s H E f c1 hr => (d_call (ps := ["text", "length"]) (fn_mono (k := 4) F0_read_kinds (by decide)) hr (by rfl) m_read_kinds k_read_kinds b_read_kinds takes_lam (d_cons (d_var 1) (d_cons (d_var 3) d_nil))))) d_nil)))
  (b_cons (s_expr (d_bm PySem.F.plainAttrs_list PySem.F.slot_list_append PySem.F.type_list_append L2.mt_append rf_append (d_var 5) (d_cons (d_lam (k := 4) (i := 1) w__law_word quiet TB rfl (hr.mono (by decide)) (by rfl) (LamX.lamS_by (by show LamX.lamSB (L2.defScope s__law_read_right) _ = true; decide +kernel)) (by rfl) (fun _ _ _ _ _ => by rfl) (fun A outer s H E f c1 hr => (d_call (ps := ["text", "length"]) (fn_mono (k := 4) F0_read_kinds (by decide)) hr (by rfl) m_read_kinds k_read_kinds b_read_kinds takes_lam (d_cons (d_var 4) (d_cons (d_var 3) d_nil))))) d_nil)))
  (b_cons (s_expr (d_bm PySem.F.plainAttrs_list PySem.F.slot_list_append PySem.F.type_list_append L2.mt_append rf_append (d_var 5) (d_cons (d_lam (k := 4) (i := 1) w__law_word quiet TB rfl (hr.mono (by decide)) (by rfl) (LamX.lamS_by (by show LamX.lamSB (L2.defScope s__law_read_right) _ = true; decide +kernel)) (by rfl) (fun _ _ _ _ _ => by rfl) (fun A outer s H E f c1 hr => (d_call (ps := ["text", "length"]) (fn_mono (k := 4) F0_read_kinds (by decide)) hr (by rfl) m_read_kinds k_read_kinds b_read_kinds takes_lam (d_cons d_str (d_cons (d_var 3) d_nil))))) d_nil)))
  (b_cons (s_expr (d_bm PySem.F.plainAttrs_list PySem.F.slot_list_append PySem.F.type_list_append L2.mt_append rf_append (d_var 5) (d_cons (d_lam (k := 3) (i := 1) w__law_word quiet TB rfl (hr.mono (by decide)) (by rfl) (LamX.lamS_by (by show LamX.lamSB (L2.defScope s__law_read_right) _ = true; decide +kernel)) (by rfl) (fun _ _ _ _ _ => by rfl) (fun A outer s H E f c1 hr => (d_call (ps := ["text"]) (fn_mono (k := 3) F0_read_row (by decide)) hr (by rfl) m_read_row k_read_row b_read_row takes_lam (d_cons (d_var 1) d_nil)))) d_nil)))
  (b_cons (s_expr (d_bm PySem.F.plainAttrs_list PySem.F.slot_list_append PySem.F.type_list_append L2.mt_append rf_append (d_var 5) (d_cons (d_lam (k := 2) (i := 1) w__law_word quiet TB rfl (hr.mono (by decide)) (by rfl) (LamX.lamS_by (by show LamX.lamSB (L2.defScope s__law_read_right) _ = true; decide +kernel)) (by rfl) (fun _ _ _ _ _ => by rfl) (fun A outer s H E f c1 hr => (d_call (ps := ["text"]) (fn_mono (k := 2) F0_read_group (by decide)) hr (by rfl) m_read_group k_read_group b_read_group takes_lam (d_cons (d_var 1) d_nil)))) d_nil)))
  (b_cons (s_set (i := 6) S.nd rfl (by first | exact .inl rfl | exact .inr rfl) (d_lst (d_cons d_str (d_cons (d_bin op_addA rf_add d_str (d_cb (call_reprA quiet hr.units) rf_repr (by rfl) n_repr rfl (d_cons (d_var 2) d_nil))) (d_cons (d_bin op_addA rf_add d_str (d_cb (call_reprA quiet hr.units) rf_repr (by rfl) n_repr rfl (d_cons (d_var 2) d_nil))) (d_cons d_str d_nil))))))
  (b_one (s_ret (d_cmp (L2.op_eqD hr.units) rf_eq (d_var 5) (d_bin op_addA rf_add (d_var 6) (d_lst (d_cons (d_bin op_addA rf_add d_str (d_cb (call_reprA quiet hr.units) rf_repr (by rfl) n_repr rfl (d_cons (d_var 3) d_nil))) (d_cons (d_bin op_addA rf_add d_str (d_cb (call_reprA quiet hr.units) rf_repr (by rfl) n_repr rfl (d_cons (d_var 3) d_nil))) (d_cons d_str (d_cons d_str d_nil)))))) (by rfl)))))))))))))))))
end Dn

set_option maxHeartbeats 4000000
namespace Dn
open PySem PySem.Spec PyProof.Rows
open L2 (PE PT PA PS PSs PG PGs PI Cx WX Takes HO Hp VK)
theorem okW__law_word {K : PySem.W.Frag} {mg : Str → Option Value} {f : Addr} {oc kV dc pm cd ct : Value} {od an : Option Addr} {sl : Array (Option Value)} (lk : K.lookup f = some ⟨oc, od, .func (PySem.W.fnOf "_law_word" "_law_word" (L2.defArgs s__law_word) (L2.defBody s__law_word) (L2.defScope s__law_word) .none kV dc pm an cd ct), sl⟩) (hcd : PySem.W.codeIn K cd "_law_word" = true) (kp : PySem.W.keepIn K (.ref f) = true) (mf : mg "_law_word" = some (.ref f)) (bf : L2.Binds K (PySem.W.fnOf "_law_word" "_law_word" (L2.defArgs s__law_word) (L2.defBody s__law_word) (L2.defScope s__law_word) .none kV dc pm an cd ct) ["_law_call"] []) (n_repr : mg "repr" = none) {C_InvalidGroup : Addr} (m_InvalidGroup : mg "InvalidGroup" = some (.ref C_InvalidGroup)) {C_InvalidKinds : Addr} (m_InvalidKinds : mg "InvalidKinds" = some (.ref C_InvalidKinds)) {C_InvalidMove : Addr} (m_InvalidMove : mg "InvalidMove" = some (.ref C_InvalidMove)) {C_InvalidNumber : Addr} (m_InvalidNumber : mg "InvalidNumber" = some (.ref C_InvalidNumber)) {C_InvalidRow : Addr} (m_InvalidRow : mg "InvalidRow" = some (.ref C_InvalidRow)) {C_ParseError : Addr} (m_ParseError : mg "ParseError" = some (.ref C_ParseError)) (T_ParseError : L2.XfC K C_ParseError) (z_ParseError : PySem.W.findIn K (.ref C_ParseError) "index" = some none) (T_InvalidNumber : L2.XfC K C_InvalidNumber) (z_InvalidNumber : PySem.W.findIn K (.ref C_InvalidNumber) "given" = some none) (tb : TbOk K mg tb__law_word cs__law_word) : HasW K mg "_law_word" F__law_word := by
  refine ⟨f, oc, od, _, _, _, _, _, _, _, _, _, _, _, ["_law_call", "error"], "_law_call", mf, kp, lk, hcd, bf, sc__law_word, rfl, by first | exact .inl rfl | exact .inr rfl, rfl, rfl, ?_⟩
  intro X eK em quiet room q
  subst eK em
  exact gives_A (cs := cs__law_word) (l := [⟨.ref C_InvalidMove, none, tSu X.K X.mg none (fun _ h => .ok (.str "move") h)⟩, ⟨.ref C_InvalidGroup, none, tSu X.K X.mg none (fun _ h => .ok (.str "group") h)⟩, ⟨.ref C_InvalidRow, none, tSu X.K X.mg none (fun _ h => .ok (.str "row") h)⟩, ⟨.ref C_InvalidKinds, none, tSu X.K X.mg none (fun _ h => .ok (.str "kinds") h)⟩, ⟨.ref C_ParseError, some 1, tSu X.K X.mg (some 1) (suRep "ParseError" "parse " "index")⟩, ⟨.ref C_InvalidNumber, some 1, tSu X.K X.mg (some 1) (suRep "InvalidNumber" "number " "given")⟩]) (by decide) (fun _ => rfl) tb (fun s H => (.plain (x := "InvalidMove") (by rfl) (by decide) m_InvalidMove (fun a oe cls d pn hz hf => su_str) (.plain (x := "InvalidGroup") (by rfl) (by decide) m_InvalidGroup (fun a oe cls d pn hz hf => su_str) (.plain (x := "InvalidRow") (by rfl) (by decide) m_InvalidRow (fun a oe cls d pn hz hf => su_str) (.plain (x := "InvalidKinds") (by rfl) (by decide) m_InvalidKinds (fun a oe cls d pn hz hf => su_str) (.named (x := "ParseError") (n := "error") (i := 1) (by rfl) (by decide) m_ParseError (by rfl) (by rfl) (fun a oe cls d pn hz hf => su_rep (n := "error") (i := 1) (by rfl) (by first | exact .inl rfl | exact .inr rfl) m_ParseError T_ParseError z_ParseError hz hf quiet (by have := room.un; show X.A.units + 3 + 64 < cLine; omega) (by rfl) n_repr) (.named (x := "InvalidNumber") (n := "error") (i := 1) (by rfl) (by decide) m_InvalidNumber (by rfl) (by rfl) (fun a oe cls d pn hz hf => su_rep (n := "error") (i := 1) (by rfl) (by first | exact .inl rfl | exact .inr rfl) m_InvalidNumber T_InvalidNumber z_InvalidNumber hz hf quiet (by have := room.un; show X.A.units + 3 + 64 < cLine; omega) (by rfl) n_repr) .nil)))))))
end Dn

set_option maxHeartbeats 4000000
namespace Dn
open PySem PySem.Spec PyProof.Rows
open L2 (PE PT PA PS PSs PG PGs PI Cx WX Takes HO Hp VK)
theorem ok__law_written_right {P : Program} {w : World} {K : PySem.W.Frag} {mg : Str → Option Value} {base : Heap} {T__law_written_right : Addr} {f cc : Addr} {oc kV dc pm ct : Value} {od an : Option Addr} {sl : Array (Option Value)} (lk : K.lookup f = some ⟨oc, od, .func (PySem.W.fnOf "_law_written_right" "_law_written_right" (L2.defArgs s__law_written_right) (L2.defBody s__law_written_right) (L2.defScope s__law_written_right) .none kV dc pm an (.ref cc) ct), sl⟩) (hcd : PySem.W.codeIn K (.ref cc) "_law_written_right" = true) (kp : PySem.W.keepIn K (.ref f) = true) (mf : mg "_law_written_right" = some (.ref f)) (bf : L2.Binds K (PySem.W.fnOf "_law_written_right" "_law_written_right" (L2.defArgs s__law_written_right) (L2.defBody s__law_written_right) (L2.defScope s__law_written_right) .none kV dc pm an (.ref cc) ct) ["_law_bag_here"] []) (h__law_one_of : Has P w K mg base 2 "_law_one_of" ["_law_bag_here", "_law_items"] f__law_one_of) (h_write_group : Has P w K mg base 2 "write_group" ["group"] f_write_group) (h_write_kinds : Has P w K mg base 4 "write_kinds" ["kinds"] f_write_kinds) (h_write_move : Has P w K mg base 4 "write_move" ["move"] f_write_move) (h_write_row : Has P w K mg base 4 "write_row" ["row"] f_write_row) (n_list : mg "list" = none) (n_range : mg "range" = none) (n_tuple : mg "tuple" = none) (w__law_word : HasW K mg "_law_word" F__law_word) (v_table_lines : HasV P w K mg base 2 "table_lines" ["group"] g_table_lines) (s_InvalidGroup_stop : NoStopC K mg "InvalidGroup") (TB : LamX.TabB base mg cc T__law_written_right) : HasG P w K mg base 8 "_law_written_right" ["_law_bag_here"] (f__law_written_right T__law_written_right) := by
  obtain ⟨g__law_one_of, e__law_one_of, F0__law_one_of, m__law_one_of, k__law_one_of, b__law_one_of⟩ := h__law_one_of
  have F__law_one_of := fn_mono F0__law_one_of (by decide : 2 ≤ 7)
  obtain ⟨g_write_group, e_write_group, F0_write_group, m_write_group, k_write_group, b_write_group⟩ := h_write_group
  have F_write_group := fn_mono F0_write_group (by decide : 2 ≤ 7)
  obtain ⟨g_write_kinds, e_write_kinds, F0_write_kinds, m_write_kinds, k_write_kinds, b_write_kinds⟩ := h_write_kinds
  have F_write_kinds := fn_mono F0_write_kinds (by decide : 4 ≤ 7)
  obtain ⟨g_write_move, e_write_move, F0_write_move, m_write_move, k_write_move, b_write_move⟩ := h_write_move
  have F_write_move := fn_mono F0_write_move (by decide : 4 ≤ 7)
  obtain ⟨g_write_row, e_write_row, F0_write_row, m_write_row, k_write_row, b_write_row⟩ := h_write_row
  have F_write_row := fn_mono F0_write_row (by decide : 4 ≤ 7)
  obtain ⟨gV_table_lines, eV_table_lines, V_table_lines, mV_table_lines, kV_table_lines, bV_table_lines⟩ := v_table_lines
  refine ⟨f, _, fn_okG lk hcd sc__law_written_right (by decide) fun A outer s H E quiet hr => ?_, mf, kp, bf⟩
  have S := sc__law_written_right
  have tk := takes_cx (P := P) (w := w) (K := K) (mg := mg) (base := base) (N := ["_law_bag_here", "_law_move", "_law_group", "_law_row", "_law_told"]) (qual := "_law_written_right") (sc := L2.defScope s__law_written_right) (f := f) (cdv := .ref cc) (A := A) (outer := outer) (s := s) (H := H) (E := E)
  have pp := passes_cx (P := P) (w := w) (K := K) (mg := mg) (base := base) (N := ["_law_bag_here", "_law_move", "_law_group", "_law_row", "_law_told"]) (qual := "_law_written_right") (sc := L2.defScope s__law_written_right) (f := f) (cdv := .ref cc) (A := A) (outer := outer) (s := s) (H := H) (E := E)
  exact (b_cons (s_set (i := 1) S.nd rfl (by first | exact .inl rfl | exact .inr rfl) (d_call (ps := ["_law_bag_here", "_law_items"]) F__law_one_of hr (by rfl) m__law_one_of k__law_one_of b__law_one_of tk (d_cons (d_var 0) (d_cons (d_lst (d_cons d_non (d_cons (d_tup d_nil) (d_cons (d_tup (d_cons d_int (d_cons d_int d_nil))) (d_cons (d_tup (d_cons d_int (d_cons d_int d_nil))) (d_cons (d_lst (d_cons d_int (d_cons d_int d_nil))) (d_cons (d_tup (d_cons d_bl (d_cons d_int d_nil))) (d_cons (d_tupRg rfl (by rfl) n_tuple (r_1 (by rfl) n_range d_int)) (d_cons d_str (d_cons d_int (d_cons (d_tup (d_cons d_int (d_cons d_int d_nil))) (d_cons d_dnewK (d_cons (d_tup (d_cons (d_un L2.un_neg rf_neg d_int) (d_cons d_int d_nil))) (d_cons (d_tup (d_cons (d_tup (d_cons d_int d_nil)) d_nil)) d_nil)))))))))))))) d_nil))))
  (b_cons (s_set (i := 2) S.nd rfl (by first | exact .inl rfl | exact .inr rfl) (d_call (ps := ["_law_bag_here", "_law_items"]) F__law_one_of hr (by rfl) m__law_one_of k__law_one_of b__law_one_of tk (d_cons (d_var 0) (d_cons (d_lst (d_cons d_non (d_cons (d_tup d_nil) (d_cons d_str (d_cons d_int (d_cons (d_tup (d_cons d_int (d_cons (d_tup d_nil) d_nil))) (d_cons (d_lst d_nil) (d_cons d_dnewK (d_cons (d_tup (d_cons (d_tup (d_cons d_int (d_cons d_int d_nil))) d_nil)) d_nil))))))))) d_nil))))
  (b_cons (s_set (i := 3) S.nd rfl (by first | exact .inl rfl | exact .inr rfl) (d_call (ps := ["_law_bag_here", "_law_items"]) F__law_one_of hr (by rfl) m__law_one_of k__law_one_of b__law_one_of tk (d_cons (d_var 0) (d_cons (d_lst (d_cons d_non (d_cons (d_tup d_nil) (d_cons (d_bin op_mulA rf_mul (d_tup (d_cons d_int d_nil)) d_int) (d_cons (d_lst (d_cons d_int d_nil)) (d_cons (d_tup (d_cons d_int (d_cons d_non d_nil))) (d_cons (d_tup (d_cons (d_bin op_powW rf_pow d_int d_int) d_nil)) (d_cons (d_tup (d_cons d_bl d_nil)) (d_cons d_str (d_cons d_int (d_cons d_dnewK (d_cons (d_tup (d_cons (d_un L2.un_neg rf_neg (d_bin op_powW rf_pow d_int d_int)) d_nil)) (d_cons (d_tup (d_cons (d_tup (d_cons d_int d_nil)) d_nil)) (d_cons (d_tup (d_cons d_str d_nil)) d_nil)))))))))))))) d_nil))))
  (b_cons (s_set (i := 4) S.nd rfl (by first | exact .inl rfl | exact .inr rfl) (d_lst (d_cons (d_lam (k := 4) (i := 0) w__law_word quiet TB rfl (hr.mono (by decide)) (by rfl) (LamX.lamS_by (by show LamX.lamSB (L2.defScope s__law_written_right) _ = true; decide +kernel)) (by rfl) (fun _ _ _ _ _ => by rfl) (fun A outer s H E f c1 hr => (d_call (ps := ["move"]) (fn_mono (k := 4) F0_write_move (by decide)) hr (by rfl) m_write_move k_write_move b_write_move takes_lam (d_cons (d_var 1) d_nil)))) d_nil)))
  (b_cons (s_expr (d_bm PySem.F.plainAttrs_list PySem.F.slot_list_append PySem.F.type_list_append L2.mt_append rf_append (d_var 4) (d_cons (d_lam (k := 2) (i := 0) w__law_word quiet TB rfl (hr.mono (by decide)) (by rfl) (LamX.lamS_by (by show LamX.lamSB (L2.defScope s__law_written_right) _ = true; decide +kernel)) (by rfl) (fun _ _ _ _ _ => by rfl) (fun A outer s H E f c1 hr => (d_call (ps := ["group"]) (fn_mono (k := 2) F0_write_group (by decide)) hr (by rfl) m_write_group k_write_group b_write_group takes_lam (d_cons (d_var 2) d_nil)))) d_nil)))
  (b_cons (s_expr (d_bm PySem.F.plainAttrs_list PySem.F.slot_list_append PySem.F.type_list_append L2.mt_append rf_append (d_var 4) (d_cons (d_lam (k := 4) (i := 0) w__law_word quiet TB rfl (hr.mono (by decide)) (by rfl) (LamX.lamS_by (by show LamX.lamSB (L2.defScope s__law_written_right) _ = true; decide +kernel)) (by rfl) (fun _ _ _ _ _ => by rfl) (fun A outer s H E f c1 hr => (d_call (ps := ["row"]) (fn_mono (k := 4) F0_write_row (by decide)) hr (by rfl) m_write_row k_write_row b_write_row takes_lam (d_cons (d_var 3) d_nil)))) d_nil)))
  (b_cons (s_expr (d_bm PySem.F.plainAttrs_list PySem.F.slot_list_append PySem.F.type_list_append L2.mt_append rf_append (d_var 4) (d_cons (d_lam (k := 4) (i := 0) w__law_word quiet TB rfl (hr.mono (by decide)) (by rfl) (LamX.lamS_by (by show LamX.lamSB (L2.defScope s__law_written_right) _ = true; decide +kernel)) (by rfl) (fun _ _ _ _ _ => by rfl) (fun A outer s H E f c1 hr => (d_call (ps := ["kinds"]) (fn_mono (k := 4) F0_write_kinds (by decide)) hr (by rfl) m_write_kinds k_write_kinds b_write_kinds takes_lam (d_cons (d_var 3) d_nil)))) d_nil)))
  (b_cons (s_expr (d_bm PySem.F.plainAttrs_list PySem.F.slot_list_append PySem.F.type_list_append L2.mt_append rf_append (d_var 4) (d_cons (d_lam (k := 5) (i := 0) w__law_word quiet TB rfl (hr.mono (by decide)) (by rfl) (LamX.lamS_by (by show LamX.lamSB (L2.defScope s__law_written_right) _ = true; decide +kernel)) (by rfl) (fun _ _ _ _ _ => by rfl) (fun A outer s H E f c1 hr => (d_listG (ps := ["group"]) (k := 2) V_table_lines s_InvalidGroup_stop (hr.mono (by decide)) (by rfl) mV_table_lines kV_table_lines bV_table_lines takes_lam (d_cons (d_var 2) d_nil) (by rfl) n_list))) d_nil)))
  (b_one (s_ret (d_cmp (L2.op_eqD hr.units) rf_eq (d_var 4) (d_lst (d_cons d_str (d_cons d_str (d_cons d_str (d_cons d_str (d_cons d_str d_nil)))))) (by rfl))))))))))))
end Dn

set_option maxHeartbeats 4000000
namespace Dn
open PySem PySem.Spec PyProof.Rows
open L2 (PE PT PA PS PSs PG PGs PI Cx WX Takes HO Hp VK)
theorem ok_move_text {P : Program} {w : World} {K : PySem.W.Frag} {mg : Str → Option Value} {base : Heap} {f : Addr} {fd : FuncData} (F : L2.Fun K "move_text" "move_text" s_move_text f fd) (mf : mg "move_text" = some (.ref f)) (bf : L2.Binds K fd ["move"] []) (h_cycles_in : Has P w K mg base 1 "cycles_in" ["move"] f_cycles_in) (c_UNIT : ∃ t, mg "UNIT" = some (.str "()" t)) (n_len : mg "len" = none) (n_str : mg "str" = none) : Has P w K mg base 2 "move_text" ["move"] f_move_text := by
  obtain ⟨g_cycles_in, e_cycles_in, F0_cycles_in, m_cycles_in, k_cycles_in, b_cycles_in⟩ := h_cycles_in
  have F_cycles_in := fn_mono F0_cycles_in (by decide : 1 ≤ 1)
  refine ⟨f, _, fn_ok F sc_move_text (by decide) fun cdv A outer s H E hr => ?_, mf, F.kp, bf⟩
  have S := sc_move_text
  have tk := takes_cx (P := P) (w := w) (K := K) (mg := mg) (base := base) (N := ["move", "rings", "cycle", "place", "ring"]) (qual := "move_text") (sc := L2.defScope s_move_text) (f := f) (cdv := cdv) (A := A) (outer := outer) (s := s) (H := H) (E := E)
  have pp := passes_cx (P := P) (w := w) (K := K) (mg := mg) (base := base) (N := ["move", "rings", "cycle", "place", "ring"]) (qual := "move_text") (sc := L2.defScope s_move_text) (f := f) (cdv := cdv) (A := A) (outer := outer) (s := s) (H := H) (E := E)
  exact (b_cons (s_setLc (i := 1) rfl S.nd rfl rfl (by exact L2.sw_true rfl rfl rfl rfl) (i_seq (d_call (ps := ["move"]) F_cycles_in hr (by rfl) m_cycles_in k_cycles_in b_cycles_in tk (d_cons (d_var 0) d_nil))) (L2.blkOk_by (own := [("cycle", 2)]) (by first | rfl | decide +kernel)) (by intro _ _ _ _ _; exact (g_name (i := 2) S.nd rfl (by first | exact .inl rfl | exact .inr rfl))) (by decide) (by intro _ _ _ _ _; exact (ts_one (t_cmp L2.op_gt rf_cmp (d_cb call_lenA rf_len (by rfl) n_len boot_len (d_cons (d_var 2) d_nil)) d_int (by rfl)))) (by intro _ _ _ _ _; exact (d_bm PySem.F.plainAttrs_str PySem.F.slot_str_join PySem.F.type_str_join L2.mt_join rf_join d_str (d_cons (d_lc rfl S.nd (i_seq (d_var 2)) (L2.blkOk_by (own := [("place", 3)]) (by first | rfl | decide +kernel)) (by intro _ _ _ _ _; exact (g_name (i := 3) S.nd rfl (by first | exact .inl rfl | exact .inr rfl))) (by decide) (by intro _ _ _ _ _; exact ts_nil) (by intro _ _ _ _ _; exact (d_ct L2.call_str_int rf_str (by rfl) n_str boot_str (d_cons (d_var 3) d_nil)))) d_nil))))
  (b_one (s_ret (d_orT (d_bm PySem.F.plainAttrs_str PySem.F.slot_str_join PySem.F.type_str_join L2.mt_join rf_join d_str (d_cons (d_lc rfl S.nd (i_seq (d_var 1)) (L2.blkOk_by (own := [("ring", 4)]) (by first | rfl | decide +kernel)) (by intro _ _ _ _ _; exact (g_name (i := 4) S.nd rfl (by first | exact .inl rfl | exact .inr rfl))) (by decide) (by intro _ _ _ _ _; exact ts_nil) (by intro _ _ _ _ _; exact (d_joined (.cons d_str (.cons (d_fmt (d_var 4)) (.cons d_str .nil)))))) d_nil)) (d_one (d_gstr (by rfl) c_UNIT))))))
end Dn

set_option maxHeartbeats 4000000
namespace Dn
open PySem PySem.Spec PyProof.Rows
open L2 (PE PT PA PS PSs PG PGs PI Cx WX Takes HO Hp VK)
theorem ok_move_told {P : Program} {w : World} {K : PySem.W.Frag} {mg : Str → Option Value} {base : Heap} {f : Addr} {fd : FuncData} (F : L2.Fun K "move_told" "move_told" s_move_told f fd) (mf : mg "move_told" = some (.ref f)) (bf : L2.Binds K fd ["places", "cycles"] []) (n_enumerate : mg "enumerate" = none) (n_len : mg "len" = none) (n_list : mg "list" = none) (n_max : mg "max" = none) (n_range : mg "range" = none) (n_tuple : mg "tuple" = none) (o_InvalidMove : OwnX K mg "InvalidMove") : Has P w K mg base 1 "move_told" ["places", "cycles"] f_move_told := by
  refine ⟨f, _, fn_ok F sc_move_told (by decide) fun cdv A outer s H E hr => ?_, mf, F.kp, bf⟩
  have S := sc_move_told
  have tk := takes_cx (P := P) (w := w) (K := K) (mg := mg) (base := base) (N := ["places", "cycles", "told", "found", "cycle", "at", "place"]) (qual := "move_told") (sc := L2.defScope s_move_told) (f := f) (cdv := cdv) (A := A) (outer := outer) (s := s) (H := H) (E := E)
  have pp := passes_cx (P := P) (w := w) (K := K) (mg := mg) (base := base) (N := ["places", "cycles", "told", "found", "cycle", "at", "place"]) (qual := "move_told") (sc := L2.defScope s_move_told) (f := f) (cdv := cdv) (A := A) (outer := outer) (s := s) (H := H) (E := E)
  exact (b_cons (s_setLc2 (i := 2) rfl S.nd rfl rfl (by exact L2.sw_true rfl rfl rfl rfl) (i_seq (d_var 1)) (L2.blkOk_by (own := [("cycle", 4), ("place", 6)]) (by first | rfl | decide +kernel)) (vs1 := [6]) (by decide) (by intro _ _ _ _ _; exact (g_name (i := 4) S.nd rfl (by first | exact .inl rfl | exact .inr rfl))) (by decide) (by intro _ _ _ _ _; exact ts_nil) (by intro _ _ _ _ _; exact (i_seq (d_var 4))) (by intro _ _ _ _ _; exact (g_name (i := 6) S.nd rfl (by first | exact .inl rfl | exact .inr rfl))) (by decide) (by intro _ _ _ _ _; exact ts_nil) (by intro _ _ _ _ _; exact (d_var 6)))
  (b_cons (s_if (t_w (w_or (t_cmp L2.op_lt rf_cmp (d_cb call_lenA rf_len (by rfl) n_len boot_len (d_cons (d_dc rfl S.nd (i_seq (d_var 2)) (L2.blkOk_by (own := [("place", 6)]) (by first | rfl | decide +kernel)) (by intro _ _ _ _ _; exact (g_name (i := 6) S.nd rfl (by first | exact .inl rfl | exact .inr rfl))) (by decide) (by intro _ _ _ _ _; exact ts_nil) (by intro _ _ _ _ _; exact (d_var 6)) (by intro _ _ _ _ _; exact d_bl)) d_nil)) (d_cb call_lenA rf_len (by rfl) n_len boot_len (d_cons (d_var 2) d_nil)) (by rfl)) (w_or1 (t_cmp L2.op_ge rf_cmp (d_maxK rfl (by have := hr.units; show _ + 2 < _; exact Nat.lt_of_le_of_lt (Nat.add_le_add_left (by decide : 2 ≤ 64) _) this) (by rfl) n_max (d_cons (d_var 2) d_nil)) (d_var 0) (by rfl))))) (b_one (s_raise rfl tk o_InvalidMove (by rfl))) b_nil)
  (b_cons (s_set (i := 3) S.nd rfl (by first | exact .inl rfl | exact .inr rfl) (d_lstRg rfl (by rfl) n_list (r_1 (by rfl) n_range (d_var 0))))
  (b_cons (s_for pp rfl (i_seq (d_var 1)) (g_name (i := 4) S.nd rfl (by first | exact .inl rfl | exact .inr rfl)) (b_one (s_for pp rfl (i_en (by rfl) n_enumerate (d_cons (d_var 4) d_nil)) (g_tup rfl (gs_cons (g_name (i := 5) S.nd rfl (by first | exact .inl rfl | exact .inr rfl)) (gs_cons (g_name (i := 6) S.nd rfl (by first | exact .inl rfl | exact .inr rfl)) gs_nil))) (b_one (s_setIt (L2.hu_of hr) (d_var 3) (d_var 6) (d_ix (L2.hu_of hr) (d_var 4) (d_bin L2.op_mod rf_mod (d_bin op_addA rf_add (d_var 5) d_int) (d_cb call_lenA rf_len (by rfl) n_len boot_len (d_cons (d_var 4) d_nil)))))))))
  (b_one (s_ret (d_ct L2.call_tuple_of rf_tuple (by rfl) n_tuple boot_tuple (d_cons (d_var 3) d_nil))))))))
end Dn

set_option maxHeartbeats 4000000
namespace Dn
open PySem PySem.Spec PyProof.Rows
open L2 (PE PT PA PS PSs PG PGs PI Cx WX Takes HO Hp VK)
theorem ok_plain_at {P : Program} {w : World} {K : PySem.W.Frag} {mg : Str → Option Value} {base : Heap} {f : Addr} {fd : FuncData} (F : L2.Fun K "plain_at" "plain_at" s_plain_at f fd) (mf : mg "plain_at" = some (.ref f)) (bf : L2.Binds K fd ["text", "index"] []) (c_FIGURES : ∃ t, mg "FIGURES" = some (.str "0123456789" t)) (c_MOST_FIGURES : ∃ t, mg "MOST_FIGURES" = some (.int 60 t)) (n_int : mg "int" = none) (n_len : mg "len" = none) (n_min : mg "min" = none) (o_ParseError : SupX P K mg "ParseError" "index") : Has P w K mg base 1 "plain_at" ["text", "index"] f_plain_at := by
  refine ⟨f, _, fn_ok F sc_plain_at (by decide) fun cdv A outer s H E hr => ?_, mf, F.kp, bf⟩
  have S := sc_plain_at
  have tk := takes_cx (P := P) (w := w) (K := K) (mg := mg) (base := base) (N := ["text", "index", "end", "most"]) (qual := "plain_at") (sc := L2.defScope s_plain_at) (f := f) (cdv := cdv) (A := A) (outer := outer) (s := s) (H := H) (E := E)
  have pp := passes_cx (P := P) (w := w) (K := K) (mg := mg) (base := base) (N := ["text", "index", "end", "most"]) (qual := "plain_at") (sc := L2.defScope s_plain_at) (f := f) (cdv := cdv) (A := A) (outer := outer) (s := s) (H := H) (E := E)
  exact (b_cons (s_par (i := 2) (j := 3) rfl S.nd rfl rfl (by decide) rfl rfl (d_cons (d_var 1) (d_cons (d_bin op_addA rf_add (d_var 1) (d_if (t_cmp (L2.op_eqD hr.units) rf_eq (d_slice (d_var 0) (o_some (d_var 1)) (o_some (d_bin op_addA rf_add (d_var 1) d_int))) d_str (by rfl)) d_int (d_gint (by rfl) c_MOST_FIGURES))) d_nil)) (by rfl))
  (b_cons (s_while pp (t_w (w_and (t_cmp L2.op_lt rf_cmp (d_var 2) (d_cb (call_minA rfl) rf_min (by rfl) n_min boot_min (d_cons (d_cb call_lenA rf_len (by rfl) n_len boot_len (d_cons (d_var 0) d_nil)) (d_cons (d_var 3) d_nil))) (by rfl)) (w_and1 (t_in (L2.hu_of hr) (d_ix (L2.hu_of hr) (d_var 0) (d_var 2)) (d_gstr (by rfl) c_FIGURES))))) (b_one (s_aug (i := 2) S.nd rfl (by first | exact .inl rfl | exact .inr rfl) d_int L2.ip_add rf_ip)))
  (b_cons (s_if (t_cmp (L2.op_eqD hr.units) rf_eq (d_var 2) (d_var 1) (by rfl)) (b_one (s_raiseV rfl tk o_ParseError hr (by rfl) (d_var 1))) b_nil)
  (b_one (s_ret (d_tup (d_cons (d_ct call_intA rf_intA (by rfl) n_int boot_int (d_cons (d_slice (d_var 0) (o_some (d_var 1)) (o_some (d_var 2))) d_nil)) (d_cons (d_var 2) d_nil))))))))
end Dn

set_option maxHeartbeats 4000000
namespace Dn
open PySem PySem.Spec PyProof.Rows
open L2 (PE PT PA PS PSs PG PGs PI Cx WX Takes HO Hp VK)
theorem ok_read_group {P : Program} {w : World} {K : PySem.W.Frag} {mg : Str → Option Value} {base : Heap} {f : Addr} {fd : FuncData} (F : L2.Fun K "read_group" "read_group" s_read_group f fd) (mf : mg "read_group" = some (.ref f)) (bf : L2.Binds K fd ["text"] []) (h_require_text : Has P w K mg base 1 "require_text" ["value"] f_require_text) : Has P w K mg base 2 "read_group" ["text"] f_read_group := by
  obtain ⟨g_require_text, e_require_text, F0_require_text, m_require_text, k_require_text, b_require_text⟩ := h_require_text
  have F_require_text := fn_mono F0_require_text (by decide : 1 ≤ 1)
  refine ⟨f, _, fn_ok F sc_read_group (by decide) fun cdv A outer s H E hr => ?_, mf, F.kp, bf⟩
  have S := sc_read_group
  have tk := takes_cx (P := P) (w := w) (K := K) (mg := mg) (base := base) (N := ["text", "places", "index", "told", "cycles", "makers"]) (qual := "read_group") (sc := L2.defScope s_read_group) (f := f) (cdv := cdv) (A := A) (outer := outer) (s := s) (H := H) (E := E)
  have pp := passes_cx (P := P) (w := w) (K := K) (mg := mg) (base := base) (N := ["text", "places", "index", "told", "cycles", "makers"]) (qual := "read_group") (sc := L2.defScope s_read_group) (f := f) (cdv := cdv) (A := A) (outer := outer) (s := s) (H := H) (E := E)
  exact (b_cons (s_expr (d_call (ps := ["value"]) F_require_text hr (by rfl) m_require_text k_require_text b_require_text tk (d_cons (d_var 0) d_nil)))
  (b_cons s_never
  (b_cons s_never
  (b_cons s_never
  (b_cons s_never
  (b_cons s_never
  (b_cons s_never
  (b_one s_never))))))))
end Dn

set_option maxHeartbeats 4000000
namespace Dn
open PySem PySem.Spec PyProof.Rows
open L2 (PE PT PA PS PSs PG PGs PI Cx WX Takes HO Hp VK)
theorem ok_read_kinds {P : Program} {w : World} {K : PySem.W.Frag} {mg : Str → Option Value} {base : Heap} {f : Addr} {fd : FuncData} (F : L2.Fun K "read_kinds" "read_kinds" s_read_kinds f fd) (mf : mg "read_kinds" = some (.ref f)) (bf : L2.Binds K fd ["text", "length"] []) (h_are_integers : Has P w K mg base 3 "are_integers" ["value"] f_are_integers) (h_require_text : Has P w K mg base 1 "require_text" ["value"] f_require_text) (h_require_within : Has P w K mg base 3 "require_within" ["value", "low", "high"] f_require_within) (h_terms_at : Has P w K mg base 3 "terms_at" ["text"] f_terms_at) (c_MOST_MEMBERS : ∃ t, mg "MOST_MEMBERS" = some (.int 60 t)) (c_NOTHING : ∃ t, mg "NOTHING" = some (.str "0" t)) (n_any : mg "any" = none) (n_tuple : mg "tuple" = none) (o_InvalidKinds : OwnX K mg "InvalidKinds") : Has P w K mg base 4 "read_kinds" ["text", "length"] f_read_kinds := by
  obtain ⟨g_are_integers, e_are_integers, F0_are_integers, m_are_integers, k_are_integers, b_are_integers⟩ := h_are_integers
  have F_are_integers := fn_mono F0_are_integers (by decide : 3 ≤ 3)
  obtain ⟨g_require_text, e_require_text, F0_require_text, m_require_text, k_require_text, b_require_text⟩ := h_require_text
  have F_require_text := fn_mono F0_require_text (by decide : 1 ≤ 3)
  obtain ⟨g_require_within, e_require_within, F0_require_within, m_require_within, k_require_within, b_require_within⟩ := h_require_within
  have F_require_within := fn_mono F0_require_within (by decide : 3 ≤ 3)
  obtain ⟨g_terms_at, e_terms_at, F0_terms_at, m_terms_at, k_terms_at, b_terms_at⟩ := h_terms_at
  have F_terms_at := fn_mono F0_terms_at (by decide : 3 ≤ 3)
  refine ⟨f, _, fn_ok F sc_read_kinds (by decide) fun cdv A outer s H E hr => ?_, mf, F.kp, bf⟩
  have S := sc_read_kinds
  have tk := takes_cx (P := P) (w := w) (K := K) (mg := mg) (base := base) (N := ["text", "length", "terms", "found", "number", "place"]) (qual := "read_kinds") (sc := L2.defScope s_read_kinds) (f := f) (cdv := cdv) (A := A) (outer := outer) (s := s) (H := H) (E := E)
  have pp := passes_cx (P := P) (w := w) (K := K) (mg := mg) (base := base) (N := ["text", "length", "terms", "found", "number", "place"]) (qual := "read_kinds") (sc := L2.defScope s_read_kinds) (f := f) (cdv := cdv) (A := A) (outer := outer) (s := s) (H := H) (E := E)
  exact (b_cons (s_expr (d_call (ps := ["value"]) F_require_text hr (by rfl) m_require_text k_require_text b_require_text tk (d_cons (d_var 0) d_nil)))
  (b_cons (s_expr (d_call (ps := ["value", "low", "high"]) F_require_within hr (by rfl) m_require_within k_require_within b_require_within tk (d_cons (d_var 1) (d_cons d_int (d_cons (d_gint (by rfl) c_MOST_MEMBERS) d_nil)))))
  (b_cons (s_set (i := 2) S.nd rfl (by first | exact .inl rfl | exact .inr rfl) (d_if (t_cmp (L2.op_eqD hr.units) rf_eq (d_var 0) (d_gstr (by rfl) c_NOTHING) (by rfl)) (d_lst d_nil) (d_call (ps := ["text"]) F_terms_at hr (by rfl) m_terms_at k_terms_at b_terms_at tk (d_cons (d_var 0) d_nil))))
  (b_cons (s_if (t_val (d_cb (L2.cr_any rfl) rf_any (by rfl) n_any boot_any (d_cons (d_lc rfl S.nd (i_seq (d_var 2)) (L2.blkOk_by (own := [("number", 4), ("place", 5)]) (by first | rfl | decide +kernel)) (by intro _ _ _ _ _; exact (g_tup rfl (gs_cons (g_name (i := 4) S.nd rfl (by first | exact .inl rfl | exact .inr rfl)) (gs_cons (g_name (i := 5) S.nd rfl (by first | exact .inl rfl | exact .inr rfl)) gs_nil)))) (by decide) (by intro _ _ _ _ _; exact ts_nil) (by intro _ _ _ _ _; exact (d_cmp L2.op_ge rf_cmp (d_var 5) (d_var 1) (by rfl)))) d_nil))) (b_one (s_raise rfl tk o_InvalidKinds (by rfl))) b_nil)
  (b_cons (s_set (i := 3) S.nd rfl (by first | exact .inl rfl | exact .inr rfl) (d_bin op_mulA rf_mul (d_lst (d_cons d_int d_nil)) (d_var 1)))
  (b_cons (s_for pp rfl (i_seq (d_var 2)) (g_tup rfl (gs_cons (g_name (i := 4) S.nd rfl (by first | exact .inl rfl | exact .inr rfl)) (gs_cons (g_name (i := 5) S.nd rfl (by first | exact .inl rfl | exact .inr rfl)) gs_nil))) (b_one (s_augIt (d_var 3) (d_var 5) (d_var 4))))
  (b_cons (s_if (t_not (t_val (d_call (ps := ["value"]) F_are_integers hr (by rfl) m_are_integers k_are_integers b_are_integers tk (d_cons (d_ct L2.call_tuple_of rf_tuple (by rfl) n_tuple boot_tuple (d_cons (d_var 3) d_nil)) d_nil)))) (b_one (s_raise rfl tk o_InvalidKinds (by rfl))) b_nil)
  (b_one (s_ret (d_ct L2.call_tuple_of rf_tuple (by rfl) n_tuple boot_tuple (d_cons (d_var 3) d_nil)))))))))))
end Dn

set_option maxHeartbeats 4000000
namespace Dn
open PySem PySem.Spec PyProof.Rows
open L2 (PE PT PA PS PSs PG PGs PI Cx WX Takes HO Hp VK)
theorem ok_read_move {P : Program} {w : World} {K : PySem.W.Frag} {mg : Str → Option Value} {base : Heap} {f : Addr} {fd : FuncData} (F : L2.Fun K "read_move" "read_move" s_read_move f fd) (mf : mg "read_move" = some (.ref f)) (bf : L2.Binds K fd ["text", "places"] []) (h_cycles_at : Has P w K mg base 3 "cycles_at" ["text", "index"] f_cycles_at) (h_move_told : Has P w K mg base 1 "move_told" ["places", "cycles"] f_move_told) (h_require_end : Has P w K mg base 1 "require_end" ["text", "index"] f_require_end) (h_require_text : Has P w K mg base 1 "require_text" ["value"] f_require_text) (h_require_within : Has P w K mg base 3 "require_within" ["value", "low", "high"] f_require_within) (c_MOST_PLACES : ∃ t, mg "MOST_PLACES" = some (.int 24 t)) : Has P w K mg base 4 "read_move" ["text", "places"] f_read_move := by
  obtain ⟨g_cycles_at, e_cycles_at, F0_cycles_at, m_cycles_at, k_cycles_at, b_cycles_at⟩ := h_cycles_at
  have F_cycles_at := fn_mono F0_cycles_at (by decide : 3 ≤ 3)
  obtain ⟨g_move_told, e_move_told, F0_move_told, m_move_told, k_move_told, b_move_told⟩ := h_move_told
  have F_move_told := fn_mono F0_move_told (by decide : 1 ≤ 3)
  obtain ⟨g_require_end, e_require_end, F0_require_end, m_require_end, k_require_end, b_require_end⟩ := h_require_end
  have F_require_end := fn_mono F0_require_end (by decide : 1 ≤ 3)
  obtain ⟨g_require_text, e_require_text, F0_require_text, m_require_text, k_require_text, b_require_text⟩ := h_require_text
  have F_require_text := fn_mono F0_require_text (by decide : 1 ≤ 3)
  obtain ⟨g_require_within, e_require_within, F0_require_within, m_require_within, k_require_within, b_require_within⟩ := h_require_within
  have F_require_within := fn_mono F0_require_within (by decide : 3 ≤ 3)
  refine ⟨f, _, fn_ok F sc_read_move (by decide) fun cdv A outer s H E hr => ?_, mf, F.kp, bf⟩
  have S := sc_read_move
  have tk := takes_cx (P := P) (w := w) (K := K) (mg := mg) (base := base) (N := ["text", "places", "cycles", "index"]) (qual := "read_move") (sc := L2.defScope s_read_move) (f := f) (cdv := cdv) (A := A) (outer := outer) (s := s) (H := H) (E := E)
  have pp := passes_cx (P := P) (w := w) (K := K) (mg := mg) (base := base) (N := ["text", "places", "cycles", "index"]) (qual := "read_move") (sc := L2.defScope s_read_move) (f := f) (cdv := cdv) (A := A) (outer := outer) (s := s) (H := H) (E := E)
  exact (b_cons (s_expr (d_call (ps := ["value"]) F_require_text hr (by rfl) m_require_text k_require_text b_require_text tk (d_cons (d_var 0) d_nil)))
  (b_cons (s_expr (d_call (ps := ["value", "low", "high"]) F_require_within hr (by rfl) m_require_within k_require_within b_require_within tk (d_cons (d_var 1) (d_cons d_int (d_cons (d_gint (by rfl) c_MOST_PLACES) d_nil)))))
  (b_cons (s_asg (d_call (ps := ["text", "index"]) F_cycles_at hr (by rfl) m_cycles_at k_cycles_at b_cycles_at tk (d_cons (d_var 0) (d_cons d_int d_nil))) (g_tup rfl (gs_cons (g_name (i := 2) S.nd rfl (by first | exact .inl rfl | exact .inr rfl)) (gs_cons (g_name (i := 3) S.nd rfl (by first | exact .inl rfl | exact .inr rfl)) gs_nil))))
  (b_cons (s_expr (d_call (ps := ["text", "index"]) F_require_end hr (by rfl) m_require_end k_require_end b_require_end tk (d_cons (d_var 0) (d_cons (d_var 3) d_nil))))
  (b_one (s_ret (d_call (ps := ["places", "cycles"]) F_move_told hr (by rfl) m_move_told k_move_told b_move_told tk (d_cons (d_var 1) (d_cons (d_var 2) d_nil)))))))))
end Dn

set_option maxHeartbeats 4000000
namespace Dn
open PySem PySem.Spec PyProof.Rows
open L2 (PE PT PA PS PSs PG PGs PI Cx WX Takes HO Hp VK)
theorem ok_read_row {P : Program} {w : World} {K : PySem.W.Frag} {mg : Str → Option Value} {base : Heap} {f : Addr} {fd : FuncData} (F : L2.Fun K "read_row" "read_row" s_read_row f fd) (mf : mg "read_row" = some (.ref f)) (bf : L2.Binds K fd ["text"] []) (h_require_end : Has P w K mg base 1 "require_end" ["text", "index"] f_require_end) (h_require_text : Has P w K mg base 1 "require_text" ["value"] f_require_text) (h_signed_at : Has P w K mg base 2 "signed_at" ["text", "index"] f_signed_at) (c_MOST_MEMBERS : ∃ t, mg "MOST_MEMBERS" = some (.int 60 t)) (n_len : mg "len" = none) (n_tuple : mg "tuple" = none) (o_InvalidRow : OwnX K mg "InvalidRow") : Has P w K mg base 3 "read_row" ["text"] f_read_row := by
  obtain ⟨g_require_end, e_require_end, F0_require_end, m_require_end, k_require_end, b_require_end⟩ := h_require_end
  have F_require_end := fn_mono F0_require_end (by decide : 1 ≤ 2)
  obtain ⟨g_require_text, e_require_text, F0_require_text, m_require_text, k_require_text, b_require_text⟩ := h_require_text
  have F_require_text := fn_mono F0_require_text (by decide : 1 ≤ 2)
  obtain ⟨g_signed_at, e_signed_at, F0_signed_at, m_signed_at, k_signed_at, b_signed_at⟩ := h_signed_at
  have F_signed_at := fn_mono F0_signed_at (by decide : 2 ≤ 2)
  refine ⟨f, _, fn_ok F sc_read_row (by decide) fun cdv A outer s H E hr => ?_, mf, F.kp, bf⟩
  have S := sc_read_row
  have tk := takes_cx (P := P) (w := w) (K := K) (mg := mg) (base := base) (N := ["text", "number", "index", "found"]) (qual := "read_row") (sc := L2.defScope s_read_row) (f := f) (cdv := cdv) (A := A) (outer := outer) (s := s) (H := H) (E := E)
  have pp := passes_cx (P := P) (w := w) (K := K) (mg := mg) (base := base) (N := ["text", "number", "index", "found"]) (qual := "read_row") (sc := L2.defScope s_read_row) (f := f) (cdv := cdv) (A := A) (outer := outer) (s := s) (H := H) (E := E)
  exact (b_cons (s_expr (d_call (ps := ["value"]) F_require_text hr (by rfl) m_require_text k_require_text b_require_text tk (d_cons (d_var 0) d_nil)))
  (b_cons (s_asg (d_call (ps := ["text", "index"]) F_signed_at hr (by rfl) m_signed_at k_signed_at b_signed_at tk (d_cons (d_var 0) (d_cons d_int d_nil))) (g_tup rfl (gs_cons (g_name (i := 1) S.nd rfl (by first | exact .inl rfl | exact .inr rfl)) (gs_cons (g_name (i := 2) S.nd rfl (by first | exact .inl rfl | exact .inr rfl)) gs_nil))))
  (b_cons (s_set (i := 3) S.nd rfl (by first | exact .inl rfl | exact .inr rfl) (d_lst (d_cons (d_var 1) d_nil)))
  (b_cons (s_while pp (t_cmp (L2.op_eqD hr.units) rf_eq (d_slice (d_var 0) (o_some (d_var 2)) (o_some (d_bin op_addA rf_add (d_var 2) d_int))) d_str (by rfl)) (b_cons (s_asg (d_call (ps := ["text", "index"]) F_signed_at hr (by rfl) m_signed_at k_signed_at b_signed_at tk (d_cons (d_var 0) (d_cons (d_bin op_addA rf_add (d_var 2) d_int) d_nil))) (g_tup rfl (gs_cons (g_name (i := 1) S.nd rfl (by first | exact .inl rfl | exact .inr rfl)) (gs_cons (g_name (i := 2) S.nd rfl (by first | exact .inl rfl | exact .inr rfl)) gs_nil))))
  (b_one (s_expr (d_bm PySem.F.plainAttrs_list PySem.F.slot_list_append PySem.F.type_list_append L2.mt_append rf_append (d_var 3) (d_cons (d_var 1) d_nil))))))
  (b_cons (s_expr (d_call (ps := ["text", "index"]) F_require_end hr (by rfl) m_require_end k_require_end b_require_end tk (d_cons (d_var 0) (d_cons (d_var 2) d_nil))))
  (b_cons (s_if (t_cmp L2.op_gt rf_cmp (d_cb call_lenA rf_len (by rfl) n_len boot_len (d_cons (d_var 3) d_nil)) (d_gint (by rfl) c_MOST_MEMBERS) (by rfl)) (b_one (s_raise rfl tk o_InvalidRow (by rfl))) b_nil)
  (b_one (s_ret (d_ct L2.call_tuple_of rf_tuple (by rfl) n_tuple boot_tuple (d_cons (d_var 3) d_nil))))))))))
end Dn

set_option maxHeartbeats 4000000
namespace Dn
open PySem PySem.Spec PyProof.Rows
open L2 (PE PT PA PS PSs PG PGs PI Cx WX Takes HO Hp VK)
theorem ok_require_end {P : Program} {w : World} {K : PySem.W.Frag} {mg : Str → Option Value} {base : Heap} {f : Addr} {fd : FuncData} (F : L2.Fun K "require_end" "require_end" s_require_end f fd) (mf : mg "require_end" = some (.ref f)) (bf : L2.Binds K fd ["text", "index"] []) (n_len : mg "len" = none) (o_ParseError : SupX P K mg "ParseError" "index") : Has P w K mg base 1 "require_end" ["text", "index"] f_require_end := by
  refine ⟨f, _, fn_ok F sc_require_end (by decide) fun cdv A outer s H E hr => ?_, mf, F.kp, bf⟩
  have S := sc_require_end
  have tk := takes_cx (P := P) (w := w) (K := K) (mg := mg) (base := base) (N := ["text", "index"]) (qual := "require_end") (sc := L2.defScope s_require_end) (f := f) (cdv := cdv) (A := A) (outer := outer) (s := s) (H := H) (E := E)
  have pp := passes_cx (P := P) (w := w) (K := K) (mg := mg) (base := base) (N := ["text", "index"]) (qual := "require_end") (sc := L2.defScope s_require_end) (f := f) (cdv := cdv) (A := A) (outer := outer) (s := s) (H := H) (E := E)
  exact (b_one (s_if (t_cmp L2.op_lt rf_cmp (d_var 1) (d_cb call_lenA rf_len (by rfl) n_len boot_len (d_cons (d_var 0) d_nil)) (by rfl)) (b_one (s_raiseV rfl tk o_ParseError hr (by rfl) (d_var 1))) b_nil))
end Dn

set_option maxHeartbeats 4000000
namespace Dn
open PySem PySem.Spec PyProof.Rows
open L2 (PE PT PA PS PSs PG PGs PI Cx WX Takes HO Hp VK)
theorem ok_require_group {P : Program} {w : World} {K : PySem.W.Frag} {mg : Str → Option Value} {base : Heap} {f : Addr} {fd : FuncData} (F : L2.Fun K "require_group" "require_group" s_require_group f fd) (mf : mg "require_group" = some (.ref f)) (bf : L2.Binds K fd ["value"] []) (n_isinstance : mg "isinstance" = none) (o_InvalidGroup : OwnX K mg "InvalidGroup") (q_Group : NoneOf K mg "Group") : Has P w K mg base 1 "require_group" ["value"] f_require_group := by
  have hC_Group := q_Group.choose_spec.1
  refine ⟨f, _, fn_ok F sc_require_group (by decide) fun cdv A outer s H E hr => ?_, mf, F.kp, bf⟩
  have S := sc_require_group
  have tk := takes_cx (P := P) (w := w) (K := K) (mg := mg) (base := base) (N := ["value"]) (qual := "require_group") (sc := L2.defScope s_require_group) (f := f) (cdv := cdv) (A := A) (outer := outer) (s := s) (H := H) (E := E)
  have pp := passes_cx (P := P) (w := w) (K := K) (mg := mg) (base := base) (N := ["value"]) (qual := "require_group") (sc := L2.defScope s_require_group) (f := f) (cdv := cdv) (A := A) (outer := outer) (s := s) (H := H) (E := E)
  exact (b_one (s_if (t_not (t_val (d_cb L2.call_isi (rf_isiG q_Group) (by rfl) n_isinstance boot_isinstance (d_cons (d_var 0) (d_cons (d_glob (by rfl) hC_Group) d_nil))))) (b_one (s_raise rfl tk o_InvalidGroup (by rfl))) b_nil))
end Dn

set_option maxHeartbeats 4000000
namespace Dn
open PySem PySem.Spec PyProof.Rows
open L2 (PE PT PA PS PSs PG PGs PI Cx WX Takes HO Hp VK)
theorem ok_require_sign {P : Program} {w : World} {K : PySem.W.Frag} {mg : Str → Option Value} {base : Heap} {f : Addr} {fd : FuncData} (F : L2.Fun K "require_sign" "require_sign" s_require_sign f fd) (mf : mg "require_sign" = some (.ref f)) (bf : L2.Binds K fd ["text", "index", "sign"] []) (o_ParseError : SupX P K mg "ParseError" "index") : Has P w K mg base 1 "require_sign" ["text", "index", "sign"] f_require_sign := by
  refine ⟨f, _, fn_ok F sc_require_sign (by decide) fun cdv A outer s H E hr => ?_, mf, F.kp, bf⟩
  have S := sc_require_sign
  have tk := takes_cx (P := P) (w := w) (K := K) (mg := mg) (base := base) (N := ["text", "index", "sign"]) (qual := "require_sign") (sc := L2.defScope s_require_sign) (f := f) (cdv := cdv) (A := A) (outer := outer) (s := s) (H := H) (E := E)
  have pp := passes_cx (P := P) (w := w) (K := K) (mg := mg) (base := base) (N := ["text", "index", "sign"]) (qual := "require_sign") (sc := L2.defScope s_require_sign) (f := f) (cdv := cdv) (A := A) (outer := outer) (s := s) (H := H) (E := E)
  exact (b_cons (s_if (t_cmp (L2.op_neD hr.units) rf_ne (d_slice (d_var 0) (o_some (d_var 1)) (o_some (d_bin op_addA rf_add (d_var 1) d_int))) (d_var 2) (by rfl)) (b_one (s_raiseV rfl tk o_ParseError hr (by rfl) (d_var 1))) b_nil)
  (b_one (s_ret (d_bin op_addA rf_add (d_var 1) d_int))))
end Dn

set_option maxHeartbeats 4000000
namespace Dn
open PySem PySem.Spec PyProof.Rows
open L2 (PE PT PA PS PSs PG PGs PI Cx WX Takes HO Hp VK)
theorem ok_require_text {P : Program} {w : World} {K : PySem.W.Frag} {mg : Str → Option Value} {base : Heap} {f : Addr} {fd : FuncData} (F : L2.Fun K "require_text" "require_text" s_require_text f fd) (mf : mg "require_text" = some (.ref f)) (bf : L2.Binds K fd ["value"] []) (c_MOST_SIGNS : ∃ t, mg "MOST_SIGNS" = some (.int 3000 t)) (n_isinstance : mg "isinstance" = none) (n_len : mg "len" = none) (n_str : mg "str" = none) (o_ParseError : SupX P K mg "ParseError" "index") : Has P w K mg base 1 "require_text" ["value"] f_require_text := by
  refine ⟨f, _, fn_ok F sc_require_text (by decide) fun cdv A outer s H E hr => ?_, mf, F.kp, bf⟩
  have S := sc_require_text
  have tk := takes_cx (P := P) (w := w) (K := K) (mg := mg) (base := base) (N := ["value"]) (qual := "require_text") (sc := L2.defScope s_require_text) (f := f) (cdv := cdv) (A := A) (outer := outer) (s := s) (H := H) (E := E)
  have pp := passes_cx (P := P) (w := w) (K := K) (mg := mg) (base := base) (N := ["value"]) (qual := "require_text") (sc := L2.defScope s_require_text) (f := f) (cdv := cdv) (A := A) (outer := outer) (s := s) (H := H) (E := E)
  exact (b_one (s_if (t_w (w_or (t_not (t_val (d_cb L2.call_isi rf_isi (by rfl) n_isinstance boot_isinstance (d_cons (d_var 0) (d_cons (d_bty (by rfl) n_str rfl) d_nil))))) (w_or1 (t_cmp L2.op_gt rf_cmp (d_cb call_lenA rf_len (by rfl) n_len boot_len (d_cons (d_var 0) d_nil)) (d_gint (by rfl) c_MOST_SIGNS) (by rfl))))) (b_one (s_raiseV rfl tk o_ParseError hr (by rfl) d_int)) b_nil))
end Dn

set_option maxHeartbeats 4000000
namespace Dn
open PySem PySem.Spec PyProof.Rows
open L2 (PE PT PA PS PSs PG PGs PI Cx WX Takes HO Hp VK)
theorem ok_require_within {P : Program} {w : World} {K : PySem.W.Frag} {mg : Str → Option Value} {base : Heap} {f : Addr} {fd : FuncData} (F : L2.Fun K "require_within" "require_within" s_require_within f fd) (mf : mg "require_within" = some (.ref f)) (bf : L2.Binds K fd ["value", "low", "high"] []) (h_is_within : Has P w K mg base 2 "is_within" ["value", "low", "high"] f_is_within) (o_InvalidNumber : SupX P K mg "InvalidNumber" "given") : Has P w K mg base 3 "require_within" ["value", "low", "high"] f_require_within := by
  obtain ⟨g_is_within, e_is_within, F0_is_within, m_is_within, k_is_within, b_is_within⟩ := h_is_within
  have F_is_within := fn_mono F0_is_within (by decide : 2 ≤ 2)
  refine ⟨f, _, fn_ok F sc_require_within (by decide) fun cdv A outer s H E hr => ?_, mf, F.kp, bf⟩
  have S := sc_require_within
  have tk := takes_cx (P := P) (w := w) (K := K) (mg := mg) (base := base) (N := ["value", "low", "high"]) (qual := "require_within") (sc := L2.defScope s_require_within) (f := f) (cdv := cdv) (A := A) (outer := outer) (s := s) (H := H) (E := E)
  have pp := passes_cx (P := P) (w := w) (K := K) (mg := mg) (base := base) (N := ["value", "low", "high"]) (qual := "require_within") (sc := L2.defScope s_require_within) (f := f) (cdv := cdv) (A := A) (outer := outer) (s := s) (H := H) (E := E)
  exact (b_one (s_if (t_not (t_val (d_call (ps := ["value", "low", "high"]) F_is_within hr (by rfl) m_is_within k_is_within b_is_within tk (d_cons (d_var 0) (d_cons (d_var 1) (d_cons (d_var 2) d_nil)))))) (b_one (s_raiseV rfl tk o_InvalidNumber hr (by rfl) (d_var 0))) b_nil))
end Dn

set_option maxHeartbeats 4000000
namespace Dn
open PySem PySem.Spec PyProof.Rows
open L2 (PE PT PA PS PSs PG PGs PI Cx WX Takes HO Hp VK)
theorem ok_row_text {P : Program} {w : World} {K : PySem.W.Frag} {mg : Str → Option Value} {base : Heap} {f : Addr} {fd : FuncData} (F : L2.Fun K "row_text" "row_text" s_row_text f fd) (mf : mg "row_text" = some (.ref f)) (bf : L2.Binds K fd ["row"] []) (n_str : mg "str" = none) : Has P w K mg base 1 "row_text" ["row"] f_row_text := by
  refine ⟨f, _, fn_ok F sc_row_text (by decide) fun cdv A outer s H E hr => ?_, mf, F.kp, bf⟩
  have S := sc_row_text
  have tk := takes_cx (P := P) (w := w) (K := K) (mg := mg) (base := base) (N := ["row", "number"]) (qual := "row_text") (sc := L2.defScope s_row_text) (f := f) (cdv := cdv) (A := A) (outer := outer) (s := s) (H := H) (E := E)
  have pp := passes_cx (P := P) (w := w) (K := K) (mg := mg) (base := base) (N := ["row", "number"]) (qual := "row_text") (sc := L2.defScope s_row_text) (f := f) (cdv := cdv) (A := A) (outer := outer) (s := s) (H := H) (E := E)
  exact (b_one (s_ret (d_bm PySem.F.plainAttrs_str PySem.F.slot_str_join PySem.F.type_str_join L2.mt_join rf_join d_str (d_cons (d_lc rfl S.nd (i_seq (d_var 0)) (L2.blkOk_by (own := [("number", 1)]) (by first | rfl | decide +kernel)) (by intro _ _ _ _ _; exact (g_name (i := 1) S.nd rfl (by first | exact .inl rfl | exact .inr rfl))) (by decide) (by intro _ _ _ _ _; exact ts_nil) (by intro _ _ _ _ _; exact (d_ct L2.call_str_int rf_str (by rfl) n_str boot_str (d_cons (d_var 1) d_nil)))) d_nil))))
end Dn

set_option maxHeartbeats 4000000
namespace Dn
open PySem PySem.Spec PyProof.Rows
open L2 (PE PT PA PS PSs PG PGs PI Cx WX Takes HO Hp VK)
theorem ok_signed_at {P : Program} {w : World} {K : PySem.W.Frag} {mg : Str → Option Value} {base : Heap} {f : Addr} {fd : FuncData} (F : L2.Fun K "signed_at" "signed_at" s_signed_at f fd) (mf : mg "signed_at" = some (.ref f)) (bf : L2.Binds K fd ["text", "index"] []) (h_plain_at : Has P w K mg base 1 "plain_at" ["text", "index"] f_plain_at) (o_ParseError : SupX P K mg "ParseError" "index") : Has P w K mg base 2 "signed_at" ["text", "index"] f_signed_at := by
  obtain ⟨g_plain_at, e_plain_at, F0_plain_at, m_plain_at, k_plain_at, b_plain_at⟩ := h_plain_at
  have F_plain_at := fn_mono F0_plain_at (by decide : 1 ≤ 1)
  refine ⟨f, _, fn_ok F sc_signed_at (by decide) fun cdv A outer s H E hr => ?_, mf, F.kp, bf⟩
  have S := sc_signed_at
  have tk := takes_cx (P := P) (w := w) (K := K) (mg := mg) (base := base) (N := ["text", "index", "number", "end"]) (qual := "signed_at") (sc := L2.defScope s_signed_at) (f := f) (cdv := cdv) (A := A) (outer := outer) (s := s) (H := H) (E := E)
  have pp := passes_cx (P := P) (w := w) (K := K) (mg := mg) (base := base) (N := ["text", "index", "number", "end"]) (qual := "signed_at") (sc := L2.defScope s_signed_at) (f := f) (cdv := cdv) (A := A) (outer := outer) (s := s) (H := H) (E := E)
  exact (b_cons (s_if (t_cmp (L2.op_neD hr.units) rf_ne (d_slice (d_var 0) (o_some (d_var 1)) (o_some (d_bin op_addA rf_add (d_var 1) d_int))) d_str (by rfl)) (b_one (s_ret (d_call (ps := ["text", "index"]) F_plain_at hr (by rfl) m_plain_at k_plain_at b_plain_at tk (d_cons (d_var 0) (d_cons (d_var 1) d_nil))))) b_nil)
  (b_cons (s_if (t_cmp (L2.op_eqD hr.units) rf_eq (d_slice (d_var 0) (o_some (d_bin op_addA rf_add (d_var 1) d_int)) (o_some (d_bin op_addA rf_add (d_var 1) d_int))) d_str (by rfl)) (b_one (s_raiseV rfl tk o_ParseError hr (by rfl) (d_bin op_addA rf_add (d_var 1) d_int))) b_nil)
  (b_cons (s_asg (d_call (ps := ["text", "index"]) F_plain_at hr (by rfl) m_plain_at k_plain_at b_plain_at tk (d_cons (d_var 0) (d_cons (d_bin op_addA rf_add (d_var 1) d_int) d_nil))) (g_tup rfl (gs_cons (g_name (i := 2) S.nd rfl (by first | exact .inl rfl | exact .inr rfl)) (gs_cons (g_name (i := 3) S.nd rfl (by first | exact .inl rfl | exact .inr rfl)) gs_nil))))
  (b_one (s_ret (d_tup (d_cons (d_un L2.un_neg rf_neg (d_var 2)) (d_cons (d_var 3) d_nil))))))))
end Dn

set_option maxHeartbeats 4000000
namespace Dn
open PySem PySem.Spec PyProof.Rows
open L2 (PE PT PA PS PSs PG PGs PI Cx WX Takes HO Hp VK)
theorem ok_table_lines {P : Program} {w : World} {K : PySem.W.Frag} {mg : Str → Option Value} {base : Heap} {f : Addr} {cdv : Value} {oc kV dc pm ct : Value} {od an : Option Addr} {sl : Array (Option Value)} (lk : K.lookup f = some ⟨oc, od, .func (PySem.W.fnOf "table_lines" "table_lines" (L2.defArgs s_table_lines) (L2.defBody s_table_lines) (L2.defScope s_table_lines) .none kV dc pm an (cdv) ct), sl⟩) (hcd : PySem.W.codeIn K (cdv) "table_lines" = true) (kp : PySem.W.keepIn K (.ref f) = true) (mf : mg "table_lines" = some (.ref f)) (bf : L2.Binds K (PySem.W.fnOf "table_lines" "table_lines" (L2.defArgs s_table_lines) (L2.defBody s_table_lines) (L2.defScope s_table_lines) .none kV dc pm an (cdv) ct) ["group"] []) (h_require_group : Has P w K mg base 1 "require_group" ["value"] f_require_group) : HasV P w K mg base 2 "table_lines" ["group"] g_table_lines := by
  obtain ⟨g_require_group, e_require_group, F0_require_group, m_require_group, k_require_group, b_require_group⟩ := h_require_group
  have F_require_group := fn_mono F0_require_group (by decide : 1 ≤ 1)
  refine ⟨f, _, gen_ok lk hcd gsc_table_lines (by decide) fun A outer s H E pn hr => ?_, mf, kp, bf⟩
  have tk := L2.takes_gcx (P := P) (w := w) (K := K) (mg := mg) (base := base) (N := ["group", "first", "row", "mark"]) (qual := "table_lines") (scope := L2.defScope s_table_lines) (f := f) (cd := cdv) (A := A) (outer := outer) (s := s) (H := H) (E := E) (pn := pn)
  exact (s_expr (d_call (ps := ["value"]) F_require_group hr (by rfl) m_require_group k_require_group b_require_group tk (d_cons (d_var 0) d_nil)))
end Dn

set_option maxHeartbeats 4000000
namespace Dn
open PySem PySem.Spec PyProof.Rows
open L2 (PE PT PA PS PSs PG PGs PI Cx WX Takes HO Hp VK)
theorem ok_term_at {P : Program} {w : World} {K : PySem.W.Frag} {mg : Str → Option Value} {base : Heap} {f : Addr} {fd : FuncData} (F : L2.Fun K "term_at" "term_at" s_term_at f fd) (mf : mg "term_at" = some (.ref f)) (bf : L2.Binds K fd ["text", "index"] []) (h_plain_at : Has P w K mg base 1 "plain_at" ["text", "index"] f_plain_at) (h_require_sign : Has P w K mg base 1 "require_sign" ["text", "index", "sign"] f_require_sign) : Has P w K mg base 2 "term_at" ["text", "index"] f_term_at := by
  obtain ⟨g_plain_at, e_plain_at, F0_plain_at, m_plain_at, k_plain_at, b_plain_at⟩ := h_plain_at
  have F_plain_at := fn_mono F0_plain_at (by decide : 1 ≤ 1)
  obtain ⟨g_require_sign, e_require_sign, F0_require_sign, m_require_sign, k_require_sign, b_require_sign⟩ := h_require_sign
  have F_require_sign := fn_mono F0_require_sign (by decide : 1 ≤ 1)
  refine ⟨f, _, fn_ok F sc_term_at (by decide) fun cdv A outer s H E hr => ?_, mf, F.kp, bf⟩
  have S := sc_term_at
  have tk := takes_cx (P := P) (w := w) (K := K) (mg := mg) (base := base) (N := ["text", "index", "number", "place"]) (qual := "term_at") (sc := L2.defScope s_term_at) (f := f) (cdv := cdv) (A := A) (outer := outer) (s := s) (H := H) (E := E)
  have pp := passes_cx (P := P) (w := w) (K := K) (mg := mg) (base := base) (N := ["text", "index", "number", "place"]) (qual := "term_at") (sc := L2.defScope s_term_at) (f := f) (cdv := cdv) (A := A) (outer := outer) (s := s) (H := H) (E := E)
  exact (b_cons (s_set (i := 2) S.nd rfl (by first | exact .inl rfl | exact .inr rfl) d_int)
  (b_cons (s_if (t_cmp (L2.op_neD hr.units) rf_ne (d_slice (d_var 0) (o_some (d_var 1)) (o_some (d_bin op_addA rf_add (d_var 1) d_int))) d_str (by rfl)) (b_one (s_asg (d_call (ps := ["text", "index"]) F_plain_at hr (by rfl) m_plain_at k_plain_at b_plain_at tk (d_cons (d_var 0) (d_cons (d_var 1) d_nil))) (g_tup rfl (gs_cons (g_name (i := 2) S.nd rfl (by first | exact .inl rfl | exact .inr rfl)) (gs_cons (g_name (i := 1) S.nd rfl (by first | exact .inl rfl | exact .inr rfl)) gs_nil))))) b_nil)
  (b_cons (s_asg (d_call (ps := ["text", "index"]) F_plain_at hr (by rfl) m_plain_at k_plain_at b_plain_at tk (d_cons (d_var 0) (d_cons (d_call (ps := ["text", "index", "sign"]) F_require_sign hr (by rfl) m_require_sign k_require_sign b_require_sign tk (d_cons (d_var 0) (d_cons (d_var 1) (d_cons d_str d_nil)))) d_nil))) (g_tup rfl (gs_cons (g_name (i := 3) S.nd rfl (by first | exact .inl rfl | exact .inr rfl)) (gs_cons (g_name (i := 1) S.nd rfl (by first | exact .inl rfl | exact .inr rfl)) gs_nil))))
  (b_one (s_ret (d_tup (d_cons (d_tup (d_cons (d_var 2) (d_cons (d_var 3) d_nil))) (d_cons (d_call (ps := ["text", "index", "sign"]) F_require_sign hr (by rfl) m_require_sign k_require_sign b_require_sign tk (d_cons (d_var 0) (d_cons (d_var 1) (d_cons d_str d_nil)))) d_nil))))))))
end Dn

set_option maxHeartbeats 4000000
namespace Dn
open PySem PySem.Spec PyProof.Rows
open L2 (PE PT PA PS PSs PG PGs PI Cx WX Takes HO Hp VK)
theorem ok_term_text {P : Program} {w : World} {K : PySem.W.Frag} {mg : Str → Option Value} {base : Heap} {f : Addr} {fd : FuncData} (F : L2.Fun K "term_text" "term_text" s_term_text f fd) (mf : mg "term_text" = some (.ref f)) (bf : L2.Binds K fd ["number", "index"] []) : Has P w K mg base 1 "term_text" ["number", "index"] f_term_text := by
  refine ⟨f, _, fn_ok F sc_term_text (by decide) fun cdv A outer s H E hr => ?_, mf, F.kp, bf⟩
  have S := sc_term_text
  have tk := takes_cx (P := P) (w := w) (K := K) (mg := mg) (base := base) (N := ["number", "index"]) (qual := "term_text") (sc := L2.defScope s_term_text) (f := f) (cdv := cdv) (A := A) (outer := outer) (s := s) (H := H) (E := E)
  have pp := passes_cx (P := P) (w := w) (K := K) (mg := mg) (base := base) (N := ["number", "index"]) (qual := "term_text") (sc := L2.defScope s_term_text) (f := f) (cdv := cdv) (A := A) (outer := outer) (s := s) (H := H) (E := E)
  exact (b_one (s_ret (d_if (t_cmp (L2.op_eqD hr.units) rf_eq (d_var 0) d_int (by rfl)) (d_joined (.cons d_str (.cons (d_fmt (d_var 1)) (.cons d_str .nil)))) (d_joined (.cons (d_fmt (d_var 0)) (.cons d_str (.cons (d_fmt (d_var 1)) (.cons d_str .nil))))))))
end Dn

set_option maxHeartbeats 4000000
namespace Dn
open PySem PySem.Spec PyProof.Rows
open L2 (PE PT PA PS PSs PG PGs PI Cx WX Takes HO Hp VK)
theorem ok_terms_at {P : Program} {w : World} {K : PySem.W.Frag} {mg : Str → Option Value} {base : Heap} {f : Addr} {fd : FuncData} (F : L2.Fun K "terms_at" "terms_at" s_terms_at f fd) (mf : mg "terms_at" = some (.ref f)) (bf : L2.Binds K fd ["text"] []) (h_require_sign : Has P w K mg base 1 "require_sign" ["text", "index", "sign"] f_require_sign) (h_term_at : Has P w K mg base 2 "term_at" ["text", "index"] f_term_at) (n_len : mg "len" = none) (o_ParseError : SupX P K mg "ParseError" "index") : Has P w K mg base 3 "terms_at" ["text"] f_terms_at := by
  obtain ⟨g_require_sign, e_require_sign, F0_require_sign, m_require_sign, k_require_sign, b_require_sign⟩ := h_require_sign
  have F_require_sign := fn_mono F0_require_sign (by decide : 1 ≤ 2)
  obtain ⟨g_term_at, e_term_at, F0_term_at, m_term_at, k_term_at, b_term_at⟩ := h_term_at
  have F_term_at := fn_mono F0_term_at (by decide : 2 ≤ 2)
  refine ⟨f, _, fn_ok F sc_terms_at (by decide) fun cdv A outer s H E hr => ?_, mf, F.kp, bf⟩
  have S := sc_terms_at
  have tk := takes_cx (P := P) (w := w) (K := K) (mg := mg) (base := base) (N := ["text", "sign", "index", "number", "place", "found"]) (qual := "terms_at") (sc := L2.defScope s_terms_at) (f := f) (cdv := cdv) (A := A) (outer := outer) (s := s) (H := H) (E := E)
  have pp := passes_cx (P := P) (w := w) (K := K) (mg := mg) (base := base) (N := ["text", "sign", "index", "number", "place", "found"]) (qual := "terms_at") (sc := L2.defScope s_terms_at) (f := f) (cdv := cdv) (A := A) (outer := outer) (s := s) (H := H) (E := E)
  exact (b_cons (s_asg (d_if (t_cmp (L2.op_eqD hr.units) rf_eq (d_slice (d_var 0) o_none (o_some d_int)) d_str (by rfl)) (d_tup (d_cons (d_un L2.un_neg rf_neg d_int) (d_cons d_int d_nil))) (d_tup (d_cons d_int (d_cons d_int d_nil)))) (g_tup rfl (gs_cons (g_name (i := 1) S.nd rfl (by first | exact .inl rfl | exact .inr rfl)) (gs_cons (g_name (i := 2) S.nd rfl (by first | exact .inl rfl | exact .inr rfl)) gs_nil))))
  (b_cons (s_if (t_cmp (L2.op_eqD hr.units) rf_eq (d_slice (d_var 0) o_none (o_some d_int)) d_str (by rfl)) (b_one (s_raiseV rfl tk o_ParseError hr (by rfl) d_int)) b_nil)
  (b_cons (s_asg (d_call (ps := ["text", "index"]) F_term_at hr (by rfl) m_term_at k_term_at b_term_at tk (d_cons (d_var 0) (d_cons (d_var 2) d_nil))) (g_tup rfl (gs_cons (g_tup rfl (gs_cons (g_name (i := 3) S.nd rfl (by first | exact .inl rfl | exact .inr rfl)) (gs_cons (g_name (i := 4) S.nd rfl (by first | exact .inl rfl | exact .inr rfl)) gs_nil))) (gs_cons (g_name (i := 2) S.nd rfl (by first | exact .inl rfl | exact .inr rfl)) gs_nil))))
  (b_cons (s_set (i := 5) S.nd rfl (by first | exact .inl rfl | exact .inr rfl) (d_lst (d_cons (d_tup (d_cons (d_bin op_mulA rf_mul (d_var 1) (d_var 3)) (d_cons (d_var 4) d_nil))) d_nil)))
  (b_cons (s_while pp (t_cmp L2.op_lt rf_cmp (d_var 2) (d_cb call_lenA rf_len (by rfl) n_len boot_len (d_cons (d_var 0) d_nil)) (by rfl)) (b_cons (s_set (i := 2) S.nd rfl (by first | exact .inl rfl | exact .inr rfl) (d_call (ps := ["text", "index", "sign"]) F_require_sign hr (by rfl) m_require_sign k_require_sign b_require_sign tk (d_cons (d_var 0) (d_cons (d_var 2) (d_cons d_str d_nil)))))
  (b_cons (s_if (t_nin (L2.hu_of hr) (d_slice (d_var 0) (o_some (d_var 2)) (o_some (d_bin op_addA rf_add (d_var 2) d_int))) (d_tup (d_cons d_str (d_cons d_str d_nil)))) (b_one (s_raiseV rfl tk o_ParseError hr (by rfl) (d_var 2))) b_nil)
  (b_cons (s_set (i := 1) S.nd rfl (by first | exact .inl rfl | exact .inr rfl) (d_if (t_cmp (L2.op_eqD hr.units) rf_eq (d_ix (L2.hu_of hr) (d_var 0) (d_var 2)) d_str (by rfl)) d_int (d_un L2.un_neg rf_neg d_int)))
  (b_cons (s_asg (d_call (ps := ["text", "index"]) F_term_at hr (by rfl) m_term_at k_term_at b_term_at tk (d_cons (d_var 0) (d_cons (d_call (ps := ["text", "index", "sign"]) F_require_sign hr (by rfl) m_require_sign k_require_sign b_require_sign tk (d_cons (d_var 0) (d_cons (d_bin op_addA rf_add (d_var 2) d_int) (d_cons d_str d_nil)))) d_nil))) (g_tup rfl (gs_cons (g_tup rfl (gs_cons (g_name (i := 3) S.nd rfl (by first | exact .inl rfl | exact .inr rfl)) (gs_cons (g_name (i := 4) S.nd rfl (by first | exact .inl rfl | exact .inr rfl)) gs_nil))) (gs_cons (g_name (i := 2) S.nd rfl (by first | exact .inl rfl | exact .inr rfl)) gs_nil))))
  (b_one (s_expr (d_bm PySem.F.plainAttrs_list PySem.F.slot_list_append PySem.F.type_list_append L2.mt_append rf_append (d_var 5) (d_cons (d_tup (d_cons (d_bin op_mulA rf_mul (d_var 1) (d_var 3)) (d_cons (d_var 4) d_nil))) d_nil)))))))))
  (b_one (s_ret (d_var 5))))))))
end Dn

set_option maxHeartbeats 4000000
namespace Dn
open PySem PySem.Spec PyProof.Rows
open L2 (PE PT PA PS PSs PG PGs PI Cx WX Takes HO Hp VK)
theorem ok_write_group {P : Program} {w : World} {K : PySem.W.Frag} {mg : Str → Option Value} {base : Heap} {f : Addr} {fd : FuncData} (F : L2.Fun K "write_group" "write_group" s_write_group f fd) (mf : mg "write_group" = some (.ref f)) (bf : L2.Binds K fd ["group"] []) (h_require_group : Has P w K mg base 1 "require_group" ["value"] f_require_group) : Has P w K mg base 2 "write_group" ["group"] f_write_group := by
  obtain ⟨g_require_group, e_require_group, F0_require_group, m_require_group, k_require_group, b_require_group⟩ := h_require_group
  have F_require_group := fn_mono F0_require_group (by decide : 1 ≤ 1)
  refine ⟨f, _, fn_ok F sc_write_group (by decide) fun cdv A outer s H E hr => ?_, mf, F.kp, bf⟩
  have S := sc_write_group
  have tk := takes_cx (P := P) (w := w) (K := K) (mg := mg) (base := base) (N := ["group"]) (qual := "write_group") (sc := L2.defScope s_write_group) (f := f) (cdv := cdv) (A := A) (outer := outer) (s := s) (H := H) (E := E)
  have pp := passes_cx (P := P) (w := w) (K := K) (mg := mg) (base := base) (N := ["group"]) (qual := "write_group") (sc := L2.defScope s_write_group) (f := f) (cdv := cdv) (A := A) (outer := outer) (s := s) (H := H) (E := E)
  exact (b_cons (s_expr (d_call (ps := ["value"]) F_require_group hr (by rfl) m_require_group k_require_group b_require_group tk (d_cons (d_var 0) d_nil)))
  (b_one s_never))
end Dn

set_option maxHeartbeats 4000000
namespace Dn
open PySem PySem.Spec PyProof.Rows
open L2 (PE PT PA PS PSs PG PGs PI Cx WX Takes HO Hp VK)
theorem ok_write_kinds {P : Program} {w : World} {K : PySem.W.Frag} {mg : Str → Option Value} {base : Heap} {f : Addr} {fd : FuncData} (F : L2.Fun K "write_kinds" "write_kinds" s_write_kinds f fd) (mf : mg "write_kinds" = some (.ref f)) (bf : L2.Binds K fd ["kinds"] []) (h_are_integers : Has P w K mg base 3 "are_integers" ["value"] f_are_integers) (h_kinds_text : Has P w K mg base 2 "kinds_text" ["kinds"] f_kinds_text) (o_InvalidKinds : OwnX K mg "InvalidKinds") : Has P w K mg base 4 "write_kinds" ["kinds"] f_write_kinds := by
  obtain ⟨g_are_integers, e_are_integers, F0_are_integers, m_are_integers, k_are_integers, b_are_integers⟩ := h_are_integers
  have F_are_integers := fn_mono F0_are_integers (by decide : 3 ≤ 3)
  obtain ⟨g_kinds_text, e_kinds_text, F0_kinds_text, m_kinds_text, k_kinds_text, b_kinds_text⟩ := h_kinds_text
  have F_kinds_text := fn_mono F0_kinds_text (by decide : 2 ≤ 3)
  refine ⟨f, _, fn_ok F sc_write_kinds (by decide) fun cdv A outer s H E hr => ?_, mf, F.kp, bf⟩
  have S := sc_write_kinds
  have tk := takes_cx (P := P) (w := w) (K := K) (mg := mg) (base := base) (N := ["kinds"]) (qual := "write_kinds") (sc := L2.defScope s_write_kinds) (f := f) (cdv := cdv) (A := A) (outer := outer) (s := s) (H := H) (E := E)
  have pp := passes_cx (P := P) (w := w) (K := K) (mg := mg) (base := base) (N := ["kinds"]) (qual := "write_kinds") (sc := L2.defScope s_write_kinds) (f := f) (cdv := cdv) (A := A) (outer := outer) (s := s) (H := H) (E := E)
  exact (b_cons (s_if (t_not (t_val (d_call (ps := ["value"]) F_are_integers hr (by rfl) m_are_integers k_are_integers b_are_integers tk (d_cons (d_var 0) d_nil)))) (b_one (s_raise rfl tk o_InvalidKinds (by rfl))) b_nil)
  (b_one (s_ret (d_call (ps := ["kinds"]) F_kinds_text hr (by rfl) m_kinds_text k_kinds_text b_kinds_text tk (d_cons (d_var 0) d_nil)))))
end Dn

set_option maxHeartbeats 4000000
namespace Dn
open PySem PySem.Spec PyProof.Rows
open L2 (PE PT PA PS PSs PG PGs PI Cx WX Takes HO Hp VK)
theorem ok_write_move {P : Program} {w : World} {K : PySem.W.Frag} {mg : Str → Option Value} {base : Heap} {f : Addr} {fd : FuncData} (F : L2.Fun K "write_move" "write_move" s_write_move f fd) (mf : mg "write_move" = some (.ref f)) (bf : L2.Binds K fd ["move"] []) (h_is_any_move : Has P w K mg base 3 "is_any_move" ["value"] f_is_any_move) (h_move_text : Has P w K mg base 2 "move_text" ["move"] f_move_text) (o_InvalidMove : OwnX K mg "InvalidMove") : Has P w K mg base 4 "write_move" ["move"] f_write_move := by
  obtain ⟨g_is_any_move, e_is_any_move, F0_is_any_move, m_is_any_move, k_is_any_move, b_is_any_move⟩ := h_is_any_move
  have F_is_any_move := fn_mono F0_is_any_move (by decide : 3 ≤ 3)
  obtain ⟨g_move_text, e_move_text, F0_move_text, m_move_text, k_move_text, b_move_text⟩ := h_move_text
  have F_move_text := fn_mono F0_move_text (by decide : 2 ≤ 3)
  refine ⟨f, _, fn_ok F sc_write_move (by decide) fun cdv A outer s H E hr => ?_, mf, F.kp, bf⟩
  have S := sc_write_move
  have tk := takes_cx (P := P) (w := w) (K := K) (mg := mg) (base := base) (N := ["move"]) (qual := "write_move") (sc := L2.defScope s_write_move) (f := f) (cdv := cdv) (A := A) (outer := outer) (s := s) (H := H) (E := E)
  have pp := passes_cx (P := P) (w := w) (K := K) (mg := mg) (base := base) (N := ["move"]) (qual := "write_move") (sc := L2.defScope s_write_move) (f := f) (cdv := cdv) (A := A) (outer := outer) (s := s) (H := H) (E := E)
  exact (b_cons (s_if (t_not (t_val (d_call (ps := ["value"]) F_is_any_move hr (by rfl) m_is_any_move k_is_any_move b_is_any_move tk (d_cons (d_var 0) d_nil)))) (b_one (s_raise rfl tk o_InvalidMove (by rfl))) b_nil)
  (b_one (s_ret (d_call (ps := ["move"]) F_move_text hr (by rfl) m_move_text k_move_text b_move_text tk (d_cons (d_var 0) d_nil)))))
end Dn

set_option maxHeartbeats 4000000
namespace Dn
open PySem PySem.Spec PyProof.Rows
open L2 (PE PT PA PS PSs PG PGs PI Cx WX Takes HO Hp VK)
theorem ok_write_row {P : Program} {w : World} {K : PySem.W.Frag} {mg : Str → Option Value} {base : Heap} {f : Addr} {fd : FuncData} (F : L2.Fun K "write_row" "write_row" s_write_row f fd) (mf : mg "write_row" = some (.ref f)) (bf : L2.Binds K fd ["row"] []) (h_are_integers : Has P w K mg base 3 "are_integers" ["value"] f_are_integers) (h_row_text : Has P w K mg base 1 "row_text" ["row"] f_row_text) (o_InvalidRow : OwnX K mg "InvalidRow") : Has P w K mg base 4 "write_row" ["row"] f_write_row := by
  obtain ⟨g_are_integers, e_are_integers, F0_are_integers, m_are_integers, k_are_integers, b_are_integers⟩ := h_are_integers
  have F_are_integers := fn_mono F0_are_integers (by decide : 3 ≤ 3)
  obtain ⟨g_row_text, e_row_text, F0_row_text, m_row_text, k_row_text, b_row_text⟩ := h_row_text
  have F_row_text := fn_mono F0_row_text (by decide : 1 ≤ 3)
  refine ⟨f, _, fn_ok F sc_write_row (by decide) fun cdv A outer s H E hr => ?_, mf, F.kp, bf⟩
  have S := sc_write_row
  have tk := takes_cx (P := P) (w := w) (K := K) (mg := mg) (base := base) (N := ["row"]) (qual := "write_row") (sc := L2.defScope s_write_row) (f := f) (cdv := cdv) (A := A) (outer := outer) (s := s) (H := H) (E := E)
  have pp := passes_cx (P := P) (w := w) (K := K) (mg := mg) (base := base) (N := ["row"]) (qual := "write_row") (sc := L2.defScope s_write_row) (f := f) (cdv := cdv) (A := A) (outer := outer) (s := s) (H := H) (E := E)
  exact (b_cons (s_if (t_not (t_val (d_call (ps := ["value"]) F_are_integers hr (by rfl) m_are_integers k_are_integers b_are_integers tk (d_cons (d_var 0) d_nil)))) (b_one (s_raise rfl tk o_InvalidRow (by rfl))) b_nil)
  (b_one (s_ret (d_call (ps := ["row"]) F_row_text hr (by rfl) m_row_text k_row_text b_row_text tk (d_cons (d_var 0) d_nil)))))
end Dn

set_option maxHeartbeats 4000000
namespace Dn
open PySem
open TL (numL joinL)
def Good (z : Int) : Prop := -1000000000000000000000000000000000000000000000000000000000000 < z ∧ z < 1000000000000000000000000000000000000000000000000000000000000
theorem small_line {k : Nat} (h : k ≤ 16777216) : k ≤ sizeLine := by rw [sizeLine_eq]; exact h
theorem lt_line {k : Nat} (h : k < 16777216) : k < sizeLine := by rw [sizeLine_eq]; exact h
theorem ex_bind {α β : Type} {x : Xn} {h : Hs} {k : α → Hs → R β} : (R.ex x h).bind k = .ex x h := rfl
theorem ok_bind {α β : Type} {a : α} {h : Hs} {k : α → Hs → R β} : (R.ok a h).bind k = k a h := rfl
theorem isi_tup {xs : List A} {h : Hs} : bIsi [.tup xs, .ty "tuple"] h = .ok (.bl true) h := rfl
theorem isi_str {x : Str} {h : Hs} : bIsi [.str x, .ty "str"] h = .ok (.bl true) h := rfl
theorem isi_int {i : Int} {h : Hs} : bIsi [.int i, .ty "int"] h = .ok (.bl true) h := rfl
theorem isi_boo {i : Int} {h : Hs} : bIsi [.int i, .ty "bool"] h = .ok (.bl false) h := rfl
theorem len_tup {xs : List A} {h : Hs} : bLen [.tup xs] h = .ok (.int xs.length) h := rfl
theorem rg_if {a b : Int} {α : Type} (r : R α) : (if rgOk a b = true then r else .no) = if rgOk a b = true then r else .no := rfl
theorem len_ref {p : Nat} {xs : List A} {h : Hs} (e : h[p]? = some (.lst xs)) : bLen [.ref p] h = .ok (.int xs.length) h := by simp only [bLen, lenA, e]
theorem len_str {x : Str} {h : Hs} (e : x.length ≤ 16777216) : bLen [.str x] h = .ok (.int x.length) h := by simp only [bLen, lenA, small_line e, if_true]
theorem lsOf_ref {p : Nat} {xs : List A} {h : Hs} (e : h[p]? = some (.lst xs)) : lsOf h (.ref p) = some xs := by simp only [lsOf, e]
theorem seqOf_ref {p : Nat} {xs : List A} {h : Hs} (e : h[p]? = some (.lst xs)) : seqOf h (.ref p) = some xs := by simp only [seqOf, e]
theorem eq_I {neg : Bool} {i j : Int} {h : Hs} : eqA neg (.int i) (.int j) h = .ok (.bl (if neg then !decide (i = j) else decide (i = j))) h := by
  have q : PyData.eqv (.int i) (.int j) = decide (i = j) := by
    show (i == j) = decide (i = j)
    by_cases z : i = j
    · subst z; simp
    · rw [decide_eq_false z]; exact beq_eq_false_iff_ne.mpr z
  unfold eqA toD
  simp only [toDw]
  rw [show (SeqAt.shaped (.int i) && SeqAt.shaped (.int j)) = true by rfl, q]
  rfl
theorem add_I {i j : Int} {h : Hs} : intA addI (.int i) (.int j) h = .ok (.int (i + j)) h := rfl
theorem sub_I {i j : Int} {h : Hs} : intA subI (.int i) (.int j) h = .ok (.int (i - j)) h := rfl
theorem mod_I {i j : Int} {h : Hs} (hj : 0 < j) : intA modI (.int i) (.int j) h = .ok (.int (i % j)) h := by
  unfold intA modI
  dsimp only
  rw [if_pos hj]
theorem div_I {i j : Int} {h : Hs} (hj : 0 < j) (hl : j.natAbs.log2 < 9000) : intA divI (.int i) (.int j) h = .ok (.int (i / j)) h := by
  unfold intA divI
  dsimp only
  rw [if_pos ⟨hj, hl⟩]
theorem mul_I {i j : Int} {h : Hs} (hl : i.natAbs.log2 + j.natAbs.log2 < 1000000) : mulA (.int i) (.int j) h = .ok (.int (i * j)) h := by
  unfold mulA mulI
  dsimp only
  rw [if_pos hl]
theorem log2_lt_of {m k : Nat} (h : m < 2 ^ k) (hk : 0 < k) : m.log2 < k := by
  by_cases z : m = 0
  · subst z; simpa using hk
  · exact (Nat.log2_lt z).mpr h
theorem is_plain_int {n : Nat} {h : Hs} {i : Int} : f_is_plain n [.int i] h = .ok (.bl true) h := rfl
theorem is_within_ok {n : Nat} {h : Hs} {i lo hi : Int} (h1 : lo ≤ i) (h2 : i ≤ hi) : f_is_within n [.int i, .int lo, .int hi] h = .ok (.bl true) h := by
  have q : Ev NoX (f_is_within n [.int i, .int lo, .int hi] h) (fun a h' => a = .bl true ∧ h' = h) := by
    refine ev_body rfl ?_
    simp only [d_is_within, seqD, raiseD, raiseVD, par3D, ex_bind, ev_ex, es_ex, ifD, retD, retND, dropD, setD, nextD, varD, conD, bin2, un1, testD, boolR, notT, andT, orT, ifE, andV, orV, notV, tupD, lstD, cbD, nilD, consD, asgD, parD, nameG, tupG, consG, nilG, setItD, augD, augItD, methD, forD, whileD, lcD, lc2D, sliceD, someD, noneD, chain3, truD, truR, orTD, andTD, notTD, joinedD, glueD, lstRg, rg1, rg2, itRg1, itRg2, itSeq, itEn, dnewKD, newK, newL, maxKD, yesT, wipeA, cmpI, add_I, sub_I, negA, ok_bind, sizeLine_eq, Nat.reduceLeDiff, eq_I, isi_tup, isi_str, isi_int, isi_boo, len_tup, qlt, qle, qgt, qge, rg_if, ev_ok, ev_bind, ev_if, ev_call, es_nx, es_rt, es_seq, es_then, es_if, List.getElem?_cons_succ, List.getElem?_cons_zero, List.set_cons_succ, List.set_cons_zero, List.length_cons, List.length_nil, List.map_cons, List.map_nil, List.replicate, List.cons_append, List.nil_append, Option.bind_some, Option.map_some, Bool.not_true, Bool.not_false, Bool.false_eq_true, if_true, if_false, decide_true, decide_false, true_and, and_true, Nat.zero_add, Nat.add_zero, Nat.reduceAdd, Nat.reduceSub, reduceIte, Nat.sub_self, Nat.succ_sub_succ_eq_sub, Nat.add_one_sub_one, is_plain_int, h1, h2]
  obtain ⟨a, h', e, rfl, rfl⟩ := q.get
  exact e
theorem require_within_ok {n : Nat} {h : Hs} {i lo hi : Int} (h1 : lo ≤ i) (h2 : i ≤ hi) : f_require_within n [.int i, .int lo, .int hi] h = .ok .non h := by
  have q : Ev NoX (f_require_within n [.int i, .int lo, .int hi] h) (fun a h' => a = .non ∧ h' = h) := by
    refine ev_body rfl ?_
    simp only [d_require_within, seqD, raiseD, raiseVD, par3D, ex_bind, ev_ex, es_ex, ifD, retD, retND, dropD, setD, nextD, varD, conD, bin2, un1, testD, boolR, notT, andT, orT, ifE, andV, orV, notV, tupD, lstD, cbD, nilD, consD, asgD, parD, nameG, tupG, consG, nilG, setItD, augD, augItD, methD, forD, whileD, lcD, lc2D, sliceD, someD, noneD, chain3, truD, truR, orTD, andTD, notTD, joinedD, glueD, lstRg, rg1, rg2, itRg1, itRg2, itSeq, itEn, dnewKD, newK, newL, maxKD, yesT, wipeA, cmpI, add_I, sub_I, negA, ok_bind, sizeLine_eq, Nat.reduceLeDiff, eq_I, isi_tup, isi_str, isi_int, isi_boo, len_tup, qlt, qle, qgt, qge, rg_if, ev_ok, ev_bind, ev_if, ev_call, es_nx, es_rt, es_seq, es_then, es_if, List.getElem?_cons_succ, List.getElem?_cons_zero, List.set_cons_succ, List.set_cons_zero, List.length_cons, List.length_nil, List.map_cons, List.map_nil, List.replicate, List.cons_append, List.nil_append, Option.bind_some, Option.map_some, Bool.not_true, Bool.not_false, Bool.false_eq_true, if_true, if_false, decide_true, decide_false, true_and, and_true, Nat.zero_add, Nat.add_zero, Nat.reduceAdd, Nat.reduceSub, reduceIte, Nat.sub_self, Nat.succ_sub_succ_eq_sub, Nat.add_one_sub_one, is_within_ok h1 h2]
  obtain ⟨a, h', e, rfl, rfl⟩ := q.get
  exact e
theorem require_text_ok {n : Nat} {h : Hs} {x : Str} (hx : x.length ≤ 3000) : f_require_text n [.str x] h = .ok .non h := by
  have q : Ev NoX (f_require_text n [.str x] h) (fun a h' => a = .non ∧ h' = h) := by
    refine ev_body rfl ?_
    simp only [d_require_text, seqD, raiseD, raiseVD, par3D, ex_bind, ev_ex, es_ex, ifD, retD, retND, dropD, setD, nextD, varD, conD, bin2, un1, testD, boolR, notT, andT, orT, ifE, andV, orV, notV, tupD, lstD, cbD, nilD, consD, asgD, parD, nameG, tupG, consG, nilG, setItD, augD, augItD, methD, forD, whileD, lcD, lc2D, sliceD, someD, noneD, chain3, truD, truR, orTD, andTD, notTD, joinedD, glueD, lstRg, rg1, rg2, itRg1, itRg2, itSeq, itEn, dnewKD, newK, newL, maxKD, yesT, wipeA, cmpI, add_I, sub_I, negA, ok_bind, sizeLine_eq, Nat.reduceLeDiff, eq_I, isi_tup, isi_str, isi_int, isi_boo, len_tup, qlt, qle, qgt, qge, rg_if, ev_ok, ev_bind, ev_if, ev_call, es_nx, es_rt, es_seq, es_then, es_if, List.getElem?_cons_succ, List.getElem?_cons_zero, List.set_cons_succ, List.set_cons_zero, List.length_cons, List.length_nil, List.map_cons, List.map_nil, List.replicate, List.cons_append, List.nil_append, Option.bind_some, Option.map_some, Bool.not_true, Bool.not_false, Bool.false_eq_true, if_true, if_false, decide_true, decide_false, true_and, and_true, Nat.zero_add, Nat.add_zero, Nat.reduceAdd, Nat.reduceSub, reduceIte, Nat.sub_self, Nat.succ_sub_succ_eq_sub, Nat.add_one_sub_one, len_str (show x.length ≤ 16777216 by omega), show ¬ (3000 : Int) < (x.length : Int) by omega]
  obtain ⟨a, h', e, rfl, rfl⟩ := q.get
  exact e
def S (l : List Nat) : Str := SX.S l
theorem S_len (l : List Nat) : (S l).length = l.length := SX.S_len l
theorem c_lp : Str.ofString "(" = S [40] := by decide +kernel
theorem c_rp : Str.ofString ")" = S [41] := by decide +kernel
theorem c_sp : Str.ofString " " = S [32] := by decide +kernel
theorem c_co : Str.ofString "," = S [44] := by decide +kernel
theorem c_lb : Str.ofString "[" = S [91] := by decide +kernel
theorem c_rb : Str.ofString "]" = S [93] := by decide +kernel
theorem c_mi : Str.ofString "-" = S [45] := by decide +kernel
theorem c_pl : Str.ofString "+" = S [43] := by decide +kernel
theorem c_0 : Str.ofString "0" = S [48] := by decide +kernel
theorem c_un : Str.ofString "()" = S [40, 41] := by decide +kernel
theorem c_m0 : Str.ofString "-0" = S [45, 48] := by decide +kernel
theorem c_em : Str.ofString "" = S [] := by decide +kernel
theorem c_sm : Str.ofString " - " = S [32, 45, 32] := by decide +kernel
theorem c_ss : Str.ofString " + " = S [32, 43, 32] := by decide +kernel
theorem c_fi : Str.ofString "0123456789" = S [48, 49, 50, 51, 52, 53, 54, 55, 56, 57] := by decide +kernel
theorem S_inj {a b : List Nat} (e : S a = S b) : a = b := by
  have q := congrArg (fun x : Str => x.cps.toList) e
  simpa [S, SX.S] using q
def sm (cs : List Nat) : Bool := cs.all (· < 1114112)
theorem m_lp : sm [40] = true := by decide
theorem m_rp : sm [41] = true := by decide
theorem m_sp : sm [32] = true := by decide
theorem m_co : sm [44] = true := by decide
theorem m_lb : sm [91] = true := by decide
theorem m_rb : sm [93] = true := by decide
theorem m_mi : sm [45] = true := by decide
theorem m_pl : sm [43] = true := by decide
theorem m_0 : sm [48] = true := by decide
theorem m_un : sm [40, 41] = true := by decide
theorem m_m0 : sm [45, 48] = true := by decide
theorem m_em : sm [] = true := by decide
theorem m_sm : sm [32, 45, 32] = true := by decide
theorem m_ss : sm [32, 43, 32] = true := by decide
theorem sm_mem {a : List Nat} : sm a = true ↔ ∀ c ∈ a, c < 1114112 := by unfold sm; simp
theorem sm_sub {a b : List Nat} (h : sm b = true) (z : ∀ c ∈ a, c ∈ b) : sm a = true := sm_mem.mpr fun c hc => sm_mem.mp h c (z c hc)
theorem sm_cut {cs : List Nat} (h : sm cs = true) {i k : Nat} : sm ((cs.drop i).take k) = true := sm_sub h fun c hc => List.mem_of_mem_drop (List.mem_of_mem_take hc)
theorem sm_take {cs : List Nat} (h : sm cs = true) {k : Nat} : sm (cs.take k) = true := sm_sub h fun c hc => List.mem_of_mem_take hc
theorem shaped_S {a : List Nat} (h : sm a = true) : SeqAt.shaped (.str (S a)) = true := by
  have q : PyData.canLay0 (.str (S a)) = true := by
    show (S a).cps.all (· < 0x110000) = true
    have e : (S a).cps.all (fun x => decide (x < 0x110000)) = a.all (fun x => decide (x < 0x110000)) := by simp [S, SX.S]
    rw [e]
    exact h
  unfold SeqAt.shaped
  rw [q]
  rfl
theorem eq_S {neg : Bool} {a b : List Nat} {h : Hs} (ha : sm a = true) (hb : sm b = true) : eqA neg (.str (S a)) (.str (S b)) h = .ok (.bl (if neg then !decide (a = b) else decide (a = b))) h := by
  have q : PyData.eqv (.str (S a)) (.str (S b)) = decide (a = b) := by
    show (S a == S b) = decide (a = b)
    by_cases z : a = b
    · subst z; simp
    · rw [decide_eq_false z]; exact beq_eq_false_iff_ne.mpr fun y => z (S_inj y)
  unfold eqA toD
  simp only [toDw, shaped_S ha, shaped_S hb, Bool.and_self, if_true, q]
theorem sl_S {cs : List Nat} {i k : Nat} {h : Hs} (hl : cs.length ≤ 16777216) : slA (.str (S cs)) (some (i : Int)) (some ((i + k : Nat) : Int)) h = .ok (.str (S ((cs.drop i).take k))) h := by
  unfold slA
  dsimp only
  rw [if_pos (by rw [S_len]; exact small_line hl)]
  unfold L2.cutS
  rw [HT.sIx_nat, HT.sIx_nat, S_len]
  congr 2
  show SX.S (List.take _ (List.drop _ cs)) = SX.S _
  refine congrArg SX.S ?_
  by_cases hi : i ≤ cs.length
  · rw [Nat.min_eq_left hi]
    by_cases hk : i + k ≤ cs.length
    · rw [Nat.min_eq_left hk, Nat.add_sub_cancel_left]
    · rw [Nat.min_eq_right (by omega), List.take_of_length_le (by rw [List.length_drop]; omega), List.take_of_length_le (by rw [List.length_drop]; omega)]
  · rw [Nat.min_eq_right (by omega), Nat.min_eq_right (by omega), Nat.sub_self, List.drop_eq_nil_of_le (show cs.length ≤ i by omega)]
    simp
theorem sl_to {cs : List Nat} {k : Nat} {h : Hs} (hl : cs.length ≤ 16777216) : slA (.str (S cs)) none (some (k : Int)) h = .ok (.str (S (cs.take k))) h := by
  have q := sl_S (i := 0) (k := k) (h := h) hl
  rw [Nat.zero_add, List.drop_zero] at q
  rw [← q]
  rfl
theorem ix_S {cs : List Nat} {i c : Nat} {h : Hs} (hl : cs.length ≤ 16777216) (hc : cs[i]? = some c) : ixA (.str (S cs)) (.int (i : Int)) h = .ok (.str (S [c])) h := by
  unfold ixA
  rw [if_neg (by simp [isDict])]
  dsimp only
  rw [if_pos (by rw [S_len]; exact small_line hl)]
  have e : L2.atI (S cs).cps.toList (i : Int) = some c := L2.atI_nat hc
  rw [e]
  rfl
theorem in_fig {c : Nat} {h : Hs} : inA false (.str (S [c])) (.str (S [48, 49, 50, 51, 52, 53, 54, 55, 56, 57])) h = .ok (.bl (decide (48 ≤ c ∧ c ≤ 57))) h := by
  have q : decide (c ∈ [48, 49, 50, 51, 52, 53, 54, 55, 56, 57]) = decide (48 ≤ c ∧ c ≤ 57) := by
    refine decide_eq_decide.mpr ?_
    simp only [List.mem_cons, List.not_mem_nil, or_false]
    omega
  unfold inA inSeq
  rw [if_neg (by simp [isDict])]
  dsimp only
  rw [show S [48, 49, 50, 51, 52, 53, 54, 55, 56, 57] = SX.S [48, 49, 50, 51, 52, 53, 54, 55, 56, 57] from rfl, show S [c] = SX.S [c] from rfl, SX.in_one, q]
  rfl
theorem len_S {cs : List Nat} {h : Hs} (hl : cs.length ≤ 16777216) : bLen [.str (S cs)] h = .ok (.int cs.length) h := by rw [len_str (by rw [S_len]; exact hl), S_len]
theorem min2 {i j : Int} {h : Hs} : bMin [.int i, .int j] h = .ok (.int (if j < i then j else i)) h := rfl
theorem num_0 : numL 0 = [48] := TL.numL_lt (by decide)
theorem num_pos (m : Nat) : 1 ≤ (numL m).length := List.length_pos_iff.mpr (TL.numL_ne m)
theorem int_num {m : Nat} {h : Hs} (hm : (numL m).length ≤ 60) : bInt [.str (S (numL m))] h = .ok (.int (m : Int)) h := by
  have q : PySem.intText? (S (numL m)) = some (m : Int) := by
    have z := TL.int_num (n := m) (by omega)
    rw [SX.num_S] at z
    exact z
  unfold bInt
  dsimp only
  rw [q]
  dsimp only
  rw [if_pos (by rw [S_len]; omega)]
def sgL (z : Int) : List Nat := if z < 0 then 45 :: numL z.natAbs else numL z.natAbs
theorem ofString_app (a b : String) : Str.ofString (a ++ b) = Str.ofString a ++ Str.ofString b := by
  rw [Str.ofString_eq_toList, Str.ofString_eq_toList, Str.ofString_eq_toList]
  refine TL.ext_tl ?_
  rw [TL.tl_append]
  show ((a ++ b).toList.map Char.toNat) = a.toList.map Char.toNat ++ b.toList.map Char.toNat
  rw [String.toList_append, List.map_append]
theorem str_z (z : Int) : Str.ofString (toString z) = S (sgL z) := by
  cases z with
  | ofNat k =>
    have e : sgL (Int.ofNat k) = numL k := by
      unfold sgL
      rw [if_neg (by show ¬ ((k : Int) < 0); omega)]
      rfl
    rw [e]
    exact SX.num_S k
  | negSucc k =>
    have e : sgL (Int.negSucc k) = 45 :: numL (k + 1) := by
      unfold sgL
      rw [if_pos (Int.negSucc_lt_zero k)]
      rfl
    have t : toString (Int.negSucc k) = "-" ++ toString ((k + 1 : Nat) : Int) := rfl
    rw [e, t, ofString_app, c_mi]
    have q : Str.ofString (toString ((k + 1 : Nat) : Int)) = SX.S (numL (k + 1)) := SX.num_S (k + 1)
    rw [q]
    exact SX.S_cat [45] (numL (k + 1))
theorem log2_of {k : Nat} (h : k < 2 ^ 250) : k.log2 < 1920 := by
  by_cases z : k = 0
  · subst z; decide
  · have := (Nat.log2_lt z).mpr h
    omega
theorem Good.small {z : Int} (g : Good z) : z.natAbs < 1000000000000000000000000000000000000000000000000000000000000 := by
  obtain ⟨a, b⟩ := g
  omega
theorem Good.log {z : Int} (g : Good z) : z.natAbs.log2 < 1920 := log2_of (Nat.lt_trans g.small (by decide))
theorem str_Z {z : Int} {h : Hs} (g : z.natAbs.log2 < 1920) : bStr [.int z] h = .ok (.str (S (sgL z))) h := by
  unfold bStr
  dsimp only
  rw [if_pos g, str_z]
theorem require_sign_ok {n : Nat} {h : Hs} {cs : List Nat} {i c : Nat} (hl : cs.length ≤ 3000) (hs : sm cs = true) (e : (cs.drop i).take 1 = [c]) :
    f_require_sign n [.str (S cs), .int (i : Int), .str (S [c])] h = .ok (.int ((i + 1 : Nat) : Int)) h := by
  have hc : sm [c] = true := by rw [← e]; exact sm_cut hs
  have e1 : ((i : Int) + 1) = ((i + 1 : Nat) : Int) := by omega
  have q : Ev NoX (f_require_sign n [.str (S cs), .int (i : Int), .str (S [c])] h) (fun a h' => a = .int ((i + 1 : Nat) : Int) ∧ h' = h) := by
    refine ev_body rfl ?_
    simp only [d_require_sign, seqD, raiseD, raiseVD, par3D, ex_bind, ev_ex, es_ex, ifD, retD, retND, dropD, setD, nextD, varD, conD, bin2, un1, testD, boolR, notT, andT, orT, ifE, andV, orV, notV, tupD, lstD, cbD, nilD, consD, asgD, parD, nameG, tupG, consG, nilG, setItD, augD, augItD, methD, forD, whileD, lcD, lc2D, sliceD, someD, noneD, chain3, truD, truR, orTD, andTD, notTD, joinedD, glueD, lstRg, rg1, rg2, itRg1, itRg2, itSeq, itEn, dnewKD, newK, newL, maxKD, yesT, wipeA, cmpI, add_I, sub_I, negA, ok_bind, sizeLine_eq, Nat.reduceLeDiff, eq_I, isi_tup, isi_str, isi_int, isi_boo, len_tup, qlt, qle, qgt, qge, rg_if, ev_ok, ev_bind, ev_if, ev_call, es_nx, es_rt, es_seq, es_then, es_if, List.getElem?_cons_succ, List.getElem?_cons_zero, List.set_cons_succ, List.set_cons_zero, List.length_cons, List.length_nil, List.map_cons, List.map_nil, List.replicate, List.cons_append, List.nil_append, Option.bind_some, Option.map_some, Bool.not_true, Bool.not_false, Bool.false_eq_true, if_true, if_false, decide_true, decide_false, true_and, and_true, Nat.zero_add, Nat.add_zero, Nat.reduceAdd, Nat.reduceSub, reduceIte, Nat.sub_self, Nat.succ_sub_succ_eq_sub, Nat.add_one_sub_one, addA, e1, sl_S (show cs.length ≤ 16777216 by omega), e, eq_S hc hc, and_self]
  obtain ⟨a, h', e, rfl, rfl⟩ := q.get
  exact e
theorem tyA_ref {p : Nat} {xs : List A} {h : Hs} (e : h[p]? = some (.lst xs)) : tyA h "list" (.ref p) = true := by simp [tyA, e]
theorem app_ref {p : Nat} {xs : List A} {a : A} {h : Hs} (e : h[p]? = some (.lst xs)) (hl : xs.length < 16777216) : mAppend (.ref p) [a] h = .ok .non (h.set p (.lst (xs ++ [a]))) := by
  unfold mAppend
  dsimp only
  rw [e]
  dsimp only
  rw [if_pos (lt_line hl)]
theorem tuple_ref {p : Nat} {xs : List A} {h : Hs} (e : h[p]? = some (.lst xs)) : bTuple [.ref p] h = .ok (.tup xs) h := by
  unfold bTuple
  dsimp only
  rw [lsOf_ref e]
theorem strs_S (ys : List (List Nat)) : strsOf (ys.map fun y => A.str (S y)) = some (ys.map S) := by
  induction ys with
  | nil => rfl
  | cons y ys ih => rw [List.map_cons, strsOf, ih]; rfl
theorem sum_S (ys : List (List Nat)) : (ys.map S).map (·.length) = ys.map (·.length) := by
  induction ys with
  | nil => rfl
  | cons y ys ih => rw [List.map_cons, List.map_cons, ih, S_len]; rfl
theorem join_ref {p : Nat} {sep : List Nat} {ys : List (List Nat)} {h : Hs} (e : h[p]? = some (.lst (ys.map fun y => A.str (S y)))) (hl : (ys.map (·.length)).sum + ys.length * sep.length ≤ 16777216) :
    mJoin (.str (S sep)) [.ref p] h = .ok (.str (S (joinL sep ys))) h := by
  have q : (seqOf h (.ref p)).bind strsOf = some (ys.map S) := by rw [seqOf_ref e]; exact strs_S ys
  unfold mJoin
  dsimp only
  rw [q]
  dsimp only
  rw [sum_S, List.length_map, S_len, if_pos hl]
  exact congrArg (fun x => R.ok (A.str x) h) (SX.join_S sep ys)
def Bag (h : Hs) (b k : Nat) : Prop := ∃ x y z : Int, h[b]? = some (.lst [.int x, .int y, .int z]) ∧ 0 ≤ x ∧ 0 ≤ y ∧ y < 2305843009213693951 ∧ 0 ≤ z ∧ z ≤ k
section
variable {h : Hs} {b : Nat} {x y z : Int} (e : h[b]? = some (.lst [.int x, .int y, .int z]))
include e
theorem nodict : isDict h (.ref b) = false := by unfold isDict; dsimp only; rw [e]
end
section
variable {h : Hs} {b : Nat} {x y z : Int} (e : h[b]? = some (.lst [.int x, .int y, .int z]))
include e
theorem bag_ix {i : Int} {a : A} (q : L2.atI [.int x, .int y, .int z] i = some a) : ixA (.ref b) (.int i) h = .ok a h := by
  unfold ixA
  rw [nodict e]
  simp only [Bool.false_eq_true, if_false]
  rw [seqOf_ref e]
  dsimp only
  rw [q]
end
section
variable {h : Hs} {b : Nat} {x y z : Int} (e : h[b]? = some (.lst [.int x, .int y, .int z]))
include e
theorem bag_0 : ixA (.ref b) (.int 0) h = .ok (.int x) h := bag_ix e rfl
end
section
variable {h : Hs} {b : Nat} {x y z : Int} (e : h[b]? = some (.lst [.int x, .int y, .int z]))
include e
theorem bag_1 : ixA (.ref b) (.int 1) h = .ok (.int y) h := bag_ix e rfl
end
section
variable {h : Hs} {b : Nat} {x y z : Int} (e : h[b]? = some (.lst [.int x, .int y, .int z]))
include e
theorem bag_2 : ixA (.ref b) (.int 2) h = .ok (.int z) h := bag_ix e rfl
end
section
variable {h : Hs} {b : Nat} {x y z : Int} (e : h[b]? = some (.lst [.int x, .int y, .int z]))
include e
theorem bag_s0 {w : Int} : setItA h (.ref b) (.int 0) (.int w) = some (h.set b (.lst [.int w, .int y, .int z])) := by
  unfold setItA
  dsimp only
  rw [e]
  rfl
end
section
variable {h : Hs} {b : Nat} {x y z : Int} (e : h[b]? = some (.lst [.int x, .int y, .int z]))
include e
theorem bag_s2 {w : Int} : setItA h (.ref b) (.int 2) (.int w) = some (h.set b (.lst [.int x, .int y, .int w])) := by
  unfold setItA
  dsimp only
  rw [e]
  rfl
end
theorem int_I {i : Int} {h : Hs} : bInt [.int i] h = .ok (.int i) h := rfl
theorem int_B {k : Bool} {h : Hs} : bInt [.bl k] h = .ok (.int (if k then 1 else 0)) h := rfl
theorem log_small {z : Int} (h0 : 0 ≤ z) (hz : z ≤ 2305843009213700000) : z.natAbs.log2 < 100 := by
  refine log2_lt_of (k := 100) ?_ (by decide)
  have : z.natAbs ≤ 2305843009213700000 := by omega
  exact Nat.lt_of_le_of_lt this (by decide +kernel)
theorem grab_ok {X : Xn → Hs → Prop} {n : Nat} {h : Hs} {b k t : Nat} (B : Bag h b k) (hk : k ≤ 100000) (ht : 1 ≤ t) (hl : t.log2 < 9000) :
    Ev X (f__law_grab n [.ref b, .int (t : Int)] h) fun a h' => ∃ v : Nat, a = .int (v : Int) ∧ v < t ∧ Bag h' b (k + 1) ∧ Gm (some b) h h' := by
  obtain ⟨x, y, z, e, h1, h2', h3, h4, h5⟩ := B
  have hb := lt_of_get e
  have ht0 : (0 : Int) < (t : Int) := by omega
  have htl : (t : Int).natAbs.log2 < 9000 := by
    rw [Int.natAbs_natCast]
    exact hl
  have fit : ∀ i : Int, ∃ v : Nat, A.int (i % (t : Int)) = .int (v : Int) ∧ v < t := fun i => by
    have a1 := Int.emod_nonneg i (show (t : Int) ≠ 0 by omega)
    have a2 := Int.emod_lt_of_pos i ht0
    exact ⟨(i % (t : Int)).toNat, by rw [Int.toNat_of_nonneg a1], by omega⟩
  refine ev_body rfl ?_
  unfold d__law_grab
  have p1 : (0 : Int) < 2305843009213693951 := by decide
  have p2 : (0 : Int) < 2305843009213693723 := by decide
  have p3 : (0 : Int) < 2305843009213693921 := by decide
  have b1 : (2305843009213693951 : Int) ≤ 2305843009213700000 := by decide
  have b2 : (2305843009213693723 : Int) ≤ 2305843009213700000 := by decide
  have hMU : ∀ (i j : Int) (h : Hs), i.natAbs.log2 + j.natAbs.log2 < 1000000 → mulA (.int i) (.int j) h = .ok (.int (i * j)) h := fun i j h q => mul_I q
  generalize mulA = MU at hMU ⊢
  generalize hM1 : (2305843009213693951 : Int) = M1 at p1 b1 h3 ⊢
  generalize (2305843009213693723 : Int) = M2 at p2 b2 ⊢
  generalize (2305843009213693921 : Int) = M3 at p3 ⊢
  by_cases hx : 0 < x
  · simp only [seqD, raiseD, raiseVD, par3D, ex_bind, ev_ex, es_ex, ifD, retD, retND, dropD, setD, nextD, varD, conD, bin2, un1, testD, boolR, notT, andT, orT, ifE, andV, orV, notV, tupD, lstD, cbD, nilD, consD, asgD, parD, nameG, tupG, consG, nilG, setItD, augD, augItD, methD, forD, whileD, lcD, lc2D, sliceD, someD, noneD, chain3, truD, truR, orTD, andTD, notTD, joinedD, glueD, lstRg, rg1, rg2, itRg1, itRg2, itSeq, itEn, dnewKD, newK, newL, maxKD, yesT, wipeA, cmpI, add_I, sub_I, negA, ok_bind, sizeLine_eq, Nat.reduceLeDiff, eq_I, isi_tup, isi_str, isi_int, isi_boo, len_tup, qlt, qle, qgt, qge, rg_if, ev_ok, ev_bind, ev_if, ev_call, es_nx, es_rt, es_seq, es_then, es_if, List.getElem?_cons_succ, List.getElem?_cons_zero, List.set_cons_succ, List.set_cons_zero, List.length_cons, List.length_nil, List.map_cons, List.map_nil, List.replicate, List.cons_append, List.nil_append, Option.bind_some, Option.map_some, Bool.not_true, Bool.not_false, Bool.false_eq_true, if_true, if_false, decide_true, decide_false, true_and, and_true, Nat.zero_add, Nat.add_zero, Nat.reduceAdd, Nat.reduceSub, reduceIte, Nat.sub_self, Nat.succ_sub_succ_eq_sub, Nat.add_one_sub_one, bag_0 e, hx, int_I, mod_I ht0, div_I ht0 htl, bag_s0 e]
    obtain ⟨v, ev, hv⟩ := fit x
    exact ⟨v, ev, hv, ⟨x / t, y, z, get_set e, Int.ediv_nonneg h1 (by omega), h2', by rw [hM1]; exact h3, h4, by omega⟩, Gm.refl.set (.inr rfl)⟩
  · have e' : (h.set b (.lst [.int x, .int y, .int (z + 1)]))[b]? = some (.lst [.int x, .int y, .int (z + 1)]) := get_set e
    have m1 : (1048637 : Int).natAbs.log2 + (z + 1).natAbs.log2 < 1000000 := by
      have q1 := log_small (z := z + 1) (by omega) (by omega)
      have q2 : (1048637 : Int).natAbs.log2 = 20 := by decide +kernel
      omega
    have m3 : (8161 : Int).natAbs.log2 + (z + 1).natAbs.log2 < 1000000 := by
      have q1 := log_small (z := z + 1) (by omega) (by omega)
      have q2 : (8161 : Int).natAbs.log2 = 12 := by decide +kernel
      omega
    generalize hw : z + 1 = w at *
    refine step_seq (fun s h' => s = [some (.ref b), some (.int (t : Int)), none, none, none] ∧ h' = h) ?_ ?_
    · simp only [seqD, raiseD, raiseVD, par3D, ex_bind, ev_ex, es_ex, ifD, retD, retND, dropD, setD, nextD, varD, conD, bin2, un1, testD, boolR, notT, andT, orT, ifE, andV, orV, notV, tupD, lstD, cbD, nilD, consD, asgD, parD, nameG, tupG, consG, nilG, setItD, augD, augItD, methD, forD, whileD, lcD, lc2D, sliceD, someD, noneD, chain3, truD, truR, orTD, andTD, notTD, joinedD, glueD, lstRg, rg1, rg2, itRg1, itRg2, itSeq, itEn, dnewKD, newK, newL, maxKD, yesT, wipeA, cmpI, add_I, sub_I, negA, ok_bind, sizeLine_eq, Nat.reduceLeDiff, eq_I, isi_tup, isi_str, isi_int, isi_boo, len_tup, qlt, qle, qgt, qge, rg_if, ev_ok, ev_bind, ev_if, ev_call, es_nx, es_rt, es_seq, es_then, es_if, List.getElem?_cons_succ, List.getElem?_cons_zero, List.set_cons_succ, List.set_cons_zero, List.length_cons, List.length_nil, List.map_cons, List.map_nil, List.replicate, List.cons_append, List.nil_append, Option.bind_some, Option.map_some, Bool.not_true, Bool.not_false, Bool.false_eq_true, if_true, if_false, decide_true, decide_false, true_and, and_true, Nat.zero_add, Nat.add_zero, Nat.reduceAdd, Nat.reduceSub, reduceIte, Nat.sub_self, Nat.succ_sub_succ_eq_sub, Nat.add_one_sub_one, bag_0 e, hx, and_self]
    rintro s h' ⟨rfl, rfl⟩
    refine step_seq (fun s h2 => s = [some (.ref b), some (.int (t : Int)), none, none, none] ∧ h2 = h'.set b (.lst [.int x, .int y, .int w])) ?_ ?_
    · simp only [seqD, raiseD, raiseVD, par3D, ex_bind, ev_ex, es_ex, ifD, retD, retND, dropD, setD, nextD, varD, conD, bin2, un1, testD, boolR, notT, andT, orT, ifE, andV, orV, notV, tupD, lstD, cbD, nilD, consD, asgD, parD, nameG, tupG, consG, nilG, setItD, augD, augItD, methD, forD, whileD, lcD, lc2D, sliceD, someD, noneD, chain3, truD, truR, orTD, andTD, notTD, joinedD, glueD, lstRg, rg1, rg2, itRg1, itRg2, itSeq, itEn, dnewKD, newK, newL, maxKD, yesT, wipeA, cmpI, add_I, sub_I, negA, ok_bind, sizeLine_eq, Nat.reduceLeDiff, eq_I, isi_tup, isi_str, isi_int, isi_boo, len_tup, qlt, qle, qgt, qge, rg_if, ev_ok, ev_bind, ev_if, ev_call, es_nx, es_rt, es_seq, es_then, es_if, List.getElem?_cons_succ, List.getElem?_cons_zero, List.set_cons_succ, List.set_cons_zero, List.length_cons, List.length_nil, List.map_cons, List.map_nil, List.replicate, List.cons_append, List.nil_append, Option.bind_some, Option.map_some, Bool.not_true, Bool.not_false, Bool.false_eq_true, if_true, if_false, decide_true, decide_false, true_and, and_true, Nat.zero_add, Nat.add_zero, Nat.reduceAdd, Nat.reduceSub, reduceIte, Nat.sub_self, Nat.succ_sub_succ_eq_sub, Nat.add_one_sub_one, bag_2 e, addA, hw, bag_s2 e, and_self]
    rintro s h2 ⟨rfl, rfl⟩
    generalize ho : (y + 1048637 * w) % M1 = o
    have o1 : 0 ≤ o := by rw [← ho]; exact Int.emod_nonneg _ (by omega)
    have o2 : o < M1 := by rw [← ho]; exact Int.emod_lt_of_pos _ (by omega)
    have m4 : o.natAbs.log2 + o.natAbs.log2 < 1000000 := by
      have q1 := log_small o1 (by omega)
      omega
    refine step_seq (fun s h2 => s = [some (.ref b), some (.int (t : Int)), none, some (.int o), none] ∧ h2 = h'.set b (.lst [.int x, .int y, .int w])) ?_ ?_
    · simp only [seqD, raiseD, raiseVD, par3D, ex_bind, ev_ex, es_ex, ifD, retD, retND, dropD, setD, nextD, varD, conD, bin2, un1, testD, boolR, notT, andT, orT, ifE, andV, orV, notV, tupD, lstD, cbD, nilD, consD, asgD, parD, nameG, tupG, consG, nilG, setItD, augD, augItD, methD, forD, whileD, lcD, lc2D, sliceD, someD, noneD, chain3, truD, truR, orTD, andTD, notTD, joinedD, glueD, lstRg, rg1, rg2, itRg1, itRg2, itSeq, itEn, dnewKD, newK, newL, maxKD, yesT, wipeA, cmpI, add_I, sub_I, negA, ok_bind, sizeLine_eq, Nat.reduceLeDiff, eq_I, isi_tup, isi_str, isi_int, isi_boo, len_tup, qlt, qle, qgt, qge, rg_if, ev_ok, ev_bind, ev_if, ev_call, es_nx, es_rt, es_seq, es_then, es_if, List.getElem?_cons_succ, List.getElem?_cons_zero, List.set_cons_succ, List.set_cons_zero, List.length_cons, List.length_nil, List.map_cons, List.map_nil, List.replicate, List.cons_append, List.nil_append, Option.bind_some, Option.map_some, Bool.not_true, Bool.not_false, Bool.false_eq_true, if_true, if_false, decide_true, decide_false, true_and, and_true, Nat.zero_add, Nat.add_zero, Nat.reduceAdd, Nat.reduceSub, reduceIte, Nat.sub_self, Nat.succ_sub_succ_eq_sub, Nat.add_one_sub_one, addA, bag_1 e', bag_2 e', hMU _ _ _ m1, int_I, mod_I p1, ho, and_self]
    rintro s h2 ⟨rfl, rfl⟩
    generalize hq : o * o % M2 = q
    have q1 : 0 ≤ q := by rw [← hq]; exact Int.emod_nonneg _ (by omega)
    have q2 : q < M2 := by rw [← hq]; exact Int.emod_lt_of_pos _ (by omega)
    have m5 : q.natAbs.log2 + o.natAbs.log2 < 1000000 := by
      have r1 := log_small o1 (by omega)
      have r2 := log_small q1 (by omega)
      omega
    refine step_seq (fun s h2 => s = [some (.ref b), some (.int (t : Int)), none, some (.int o), some (.int (q * o + 8161 * w))] ∧ h2 = h'.set b (.lst [.int x, .int y, .int w])) ?_ ?_
    · simp only [seqD, raiseD, raiseVD, par3D, ex_bind, ev_ex, es_ex, ifD, retD, retND, dropD, setD, nextD, varD, conD, bin2, un1, testD, boolR, notT, andT, orT, ifE, andV, orV, notV, tupD, lstD, cbD, nilD, consD, asgD, parD, nameG, tupG, consG, nilG, setItD, augD, augItD, methD, forD, whileD, lcD, lc2D, sliceD, someD, noneD, chain3, truD, truR, orTD, andTD, notTD, joinedD, glueD, lstRg, rg1, rg2, itRg1, itRg2, itSeq, itEn, dnewKD, newK, newL, maxKD, yesT, wipeA, cmpI, add_I, sub_I, negA, ok_bind, sizeLine_eq, Nat.reduceLeDiff, eq_I, isi_tup, isi_str, isi_int, isi_boo, len_tup, qlt, qle, qgt, qge, rg_if, ev_ok, ev_bind, ev_if, ev_call, es_nx, es_rt, es_seq, es_then, es_if, List.getElem?_cons_succ, List.getElem?_cons_zero, List.set_cons_succ, List.set_cons_zero, List.length_cons, List.length_nil, List.map_cons, List.map_nil, List.replicate, List.cons_append, List.nil_append, Option.bind_some, Option.map_some, Bool.not_true, Bool.not_false, Bool.false_eq_true, if_true, if_false, decide_true, decide_false, true_and, and_true, Nat.zero_add, Nat.add_zero, Nat.reduceAdd, Nat.reduceSub, reduceIte, Nat.sub_self, Nat.succ_sub_succ_eq_sub, Nat.add_one_sub_one, addA, hMU _ _ _ m4, hMU _ _ _ m5, hMU _ _ _ m3, bag_2 e', int_I, mod_I p2, hq, and_self]
    rintro s h2 ⟨rfl, rfl⟩
    simp only [seqD, raiseD, raiseVD, par3D, ex_bind, ev_ex, es_ex, ifD, retD, retND, dropD, setD, nextD, varD, conD, bin2, un1, testD, boolR, notT, andT, orT, ifE, andV, orV, notV, tupD, lstD, cbD, nilD, consD, asgD, parD, nameG, tupG, consG, nilG, setItD, augD, augItD, methD, forD, whileD, lcD, lc2D, sliceD, someD, noneD, chain3, truD, truR, orTD, andTD, notTD, joinedD, glueD, lstRg, rg1, rg2, itRg1, itRg2, itSeq, itEn, dnewKD, newK, newL, maxKD, yesT, wipeA, cmpI, add_I, sub_I, negA, ok_bind, sizeLine_eq, Nat.reduceLeDiff, eq_I, isi_tup, isi_str, isi_int, isi_boo, len_tup, qlt, qle, qgt, qge, rg_if, ev_ok, ev_bind, ev_if, ev_call, es_nx, es_rt, es_seq, es_then, es_if, List.getElem?_cons_succ, List.getElem?_cons_zero, List.set_cons_succ, List.set_cons_zero, List.length_cons, List.length_nil, List.map_cons, List.map_nil, List.replicate, List.cons_append, List.nil_append, Option.bind_some, Option.map_some, Bool.not_true, Bool.not_false, Bool.false_eq_true, if_true, if_false, decide_true, decide_false, true_and, and_true, Nat.zero_add, Nat.add_zero, Nat.reduceAdd, Nat.reduceSub, reduceIte, Nat.sub_self, Nat.succ_sub_succ_eq_sub, Nat.add_one_sub_one, int_I, mod_I p3, div_I (show (0 : Int) < 16384 by decide) (show (16384 : Int).natAbs.log2 < 9000 by decide +kernel), mod_I ht0]
    obtain ⟨v, ev, hv⟩ := fit ((q * o + 8161 * w) % M3 / 16384)
    exact ⟨v, ev, hv, ⟨x, y, w, e', h1, h2', by rw [hM1]; exact h3, by omega, by omega⟩, Gm.refl.set (.inr rfl)⟩
theorem atI_n {xs : List A} {v : Nat} {a : A} (e : xs[v]? = some a) : L2.atI xs (v : Int) = some a := L2.atI_nat e
theorem ix_ref {p : Nat} {xs : List A} {i : Int} {a : A} {h : Hs} (e : h[p]? = some (.lst xs)) (q : L2.atI xs i = some a) : ixA (.ref p) (.int i) h = .ok a h := by
  unfold ixA
  rw [show isDict h (.ref p) = false by unfold isDict; dsimp only; rw [e]]
  simp only [Bool.false_eq_true, if_false]
  rw [seqOf_ref e]
  dsimp only
  rw [q]
theorem log_nat {t : Nat} (h : t < 9000) : t.log2 < 9000 := Nat.lt_of_le_of_lt (Nat.log2_le_self t) h
theorem one_of_ok {X : Xn → Hs → Prop} {n : Nat} {h : Hs} {b p k : Nat} {xs : List A} (B : Bag h b k) (hk : k ≤ 100000) (e : h[p]? = some (.lst xs)) (hp : p ≠ b) (h1 : 1 ≤ xs.length) (h2 : xs.length < 9000) :
    Ev X (f__law_one_of n [.ref b, .ref p] h) fun a h' => (∃ v : Nat, xs[v]? = some a) ∧ Bag h' b (k + 1) ∧ Gm (some b) h h' := by
  refine ev_body rfl ?_
  simp only [d__law_one_of, seqD, raiseD, raiseVD, par3D, ex_bind, ev_ex, es_ex, ifD, retD, retND, dropD, setD, nextD, varD, conD, bin2, un1, testD, boolR, notT, andT, orT, ifE, andV, orV, notV, tupD, lstD, cbD, nilD, consD, asgD, parD, nameG, tupG, consG, nilG, setItD, augD, augItD, methD, forD, whileD, lcD, lc2D, sliceD, someD, noneD, chain3, truD, truR, orTD, andTD, notTD, joinedD, glueD, lstRg, rg1, rg2, itRg1, itRg2, itSeq, itEn, dnewKD, newK, newL, maxKD, yesT, wipeA, cmpI, add_I, sub_I, negA, ok_bind, sizeLine_eq, Nat.reduceLeDiff, eq_I, isi_tup, isi_str, isi_int, isi_boo, len_tup, qlt, qle, qgt, qge, rg_if, ev_ok, ev_bind, ev_if, ev_call, es_nx, es_rt, es_seq, es_then, es_if, List.getElem?_cons_succ, List.getElem?_cons_zero, List.set_cons_succ, List.set_cons_zero, List.length_cons, List.length_nil, List.map_cons, List.map_nil, List.replicate, List.cons_append, List.nil_append, Option.bind_some, Option.map_some, Bool.not_true, Bool.not_false, Bool.false_eq_true, if_true, if_false, decide_true, decide_false, true_and, and_true, Nat.zero_add, Nat.add_zero, Nat.reduceAdd, Nat.reduceSub, reduceIte, Nat.sub_self, Nat.succ_sub_succ_eq_sub, Nat.add_one_sub_one, len_ref e]
  refine (grab_ok B hk h1 (log_nat h2)).mono fun a h' q => ?_
  obtain ⟨v, rfl, hv, B', g⟩ := q
  have e' : h'[p]? = some (.lst xs) := g.get e (by simp [hp])
  have hx : xs[v]? = some xs[v] := List.getElem?_eq_getElem hv
  rw [ix_ref e' (atI_n hx), ev_ok]
  exact ⟨⟨v, hx⟩, B', g⟩
theorem Ev.isOk {α : Type} {r : R α} {a0 : α} {h0 : Hs} (q : Ev NoX r fun a h' => a = a0 ∧ h' = h0) : r = .ok a0 h0 := by
  obtain ⟨a, h', e, rfl, rfl⟩ := q.get
  exact e
theorem Ev.isEx {α : Type} {r : R α} {x0 : Xn} {h0 : Hs} (q : Ev (fun x h' => x = x0 ∧ h' = h0) r fun _ _ => False) : r = .ex x0 h0 := by
  cases r with
  | ok a h1 => exact q.elim
  | ex x h1 => obtain ⟨rfl, rfl⟩ := q; rfl
  | no => exact q.elim
theorem es_set {f : DE} {i n : Nat} {s : Sl} {h : Hs} {T : Tl} (q : Ev (fun x h => T.ex x s h) (f n s h) fun a h1 => T.nx (s.set i (some a)) h1) : EvS (setD i f n s h) T := by
  unfold setD
  rw [es_then]
  exact q
theorem es_ret {f : DE} {n : Nat} {s : Sl} {h : Hs} {T : Tl} (q : Ev (fun x h => T.ex x s h) (f n s h) T.rt) : EvS (retD f n s h) T := by
  unfold retD
  rw [es_then]
  exact q
theorem ev_bin2 {X : Xn → Hs → Prop} {g : O2} {fa fb : DE} {n : Nat} {s : Sl} {h : Hs} {Q : A → Hs → Prop} : Ev X (bin2 g fa fb n s h) Q = Ev X (fa n s h) fun a h1 => Ev X (fb n s h1) fun b h2 => Ev X (g a b h2) Q := by
  unfold bin2
  rw [ev_bind]
  congr 1
  funext a h1
  rw [ev_bind]
theorem ev_cb1 {X : Xn → Hs → Prop} {g : List A → Hs → R A} {f : DE} {n : Nat} {s : Sl} {h : Hs} {Q : A → Hs → Prop} : Ev X (cbD g (consD f nilD) n s h) Q = Ev X (f n s h) fun a h1 => Ev X (g [a] h1) Q := by
  unfold cbD consD nilD
  rw [ev_bind, ev_bind]
  rfl
theorem nat1 (k : Nat) : ((k : Int) + 1) = ((k + 1 : Nat) : Int) := by omega
theorem nat2 (k : Nat) : ((k : Int) + 2) = ((k + 2 : Nat) : Int) := by omega
theorem nat60 (k : Nat) : ((k : Int) + 60) = ((k + 60 : Nat) : Int) := by omega
theorem natLt (k j : Nat) : ((k : Int) < (j : Int)) = (k < j) := by exact propext (by omega)
def dg (c : Nat) : Bool := decide (48 ≤ c ∧ c ≤ 57)
def cnt : Nat → List Nat → Nat
  | 0, _ => 0
  | _ + 1, [] => 0
  | k + 1, c :: l => if dg c then cnt k l + 1 else 0
def figs (l : List Nat) : Nat := if l.head? = some 48 then 1 else cnt 60 l
def dval (l : List Nat) : Nat := l.foldl (fun a c => 10 * a + (c - 48)) 0
theorem cnt_le : ∀ (k : Nat) (l : List Nat), cnt k l ≤ k ∧ cnt k l ≤ l.length
  | 0, l => ⟨Nat.le_refl _, Nat.zero_le _⟩
  | k + 1, [] => ⟨Nat.zero_le _, Nat.le_refl _⟩
  | k + 1, c :: l => by
    have z := cnt_le k l
    unfold cnt
    split
    · rw [List.length_cons]; omega
    · exact ⟨Nat.zero_le _, Nat.zero_le _⟩
theorem cnt_dg : ∀ (k : Nat) (l : List Nat) (j : Nat), j < cnt k l → ∃ c, l[j]? = some c ∧ dg c = true
  | 0, l, j, h => absurd h (Nat.not_lt_zero _)
  | k + 1, [], j, h => absurd h (Nat.not_lt_zero _)
  | k + 1, c :: l, j, h => by
    unfold cnt at h
    split at h
    · rename_i hc
      cases j with
      | zero => exact ⟨c, rfl, hc⟩
      | succ j =>
        obtain ⟨d, h1, h2⟩ := cnt_dg k l j (by omega)
        exact ⟨d, by rw [List.getElem?_cons_succ]; exact h1, h2⟩
    · exact absurd h (Nat.not_lt_zero _)
theorem cnt_end : ∀ (k : Nat) (l : List Nat) (c : Nat), cnt k l < k → l[cnt k l]? = some c → dg c = false
  | 0, l, c, h, _ => absurd h (Nat.not_lt_zero _)
  | k + 1, [], c, h, e => by simp [cnt] at e
  | k + 1, d :: l, c, h, e => by
    unfold cnt at h e
    split at h
    · rename_i hc
      rw [if_pos hc, List.getElem?_cons_succ] at e
      exact cnt_end k l c (by omega) e
    · rename_i hc
      rw [if_neg hc] at e
      simp at e
      subst e
      exact Bool.eq_false_iff.mpr hc
theorem figs_le (l : List Nat) : figs l ≤ 60 ∧ figs l ≤ l.length := by
  unfold figs
  split
  · rename_i h
    cases l with
    | nil => cases h
    | cons c l => rw [List.length_cons]; omega
  · exact cnt_le 60 l
theorem figs_dg {l : List Nat} {j : Nat} (h : j < figs l) : ∃ c, l[j]? = some c ∧ dg c = true := by
  unfold figs at h
  split at h
  · rename_i e
    have : j = 0 := by omega
    subst this
    rw [List.head?_eq_getElem?] at e
    exact ⟨48, e, rfl⟩
  · exact cnt_dg 60 l j h
theorem figs_48 {l : List Nat} (h : l.head? = some 48) : figs l = 1 := if_pos h
theorem figs_end {l : List Nat} (h : l.head? ≠ some 48) {c : Nat} (hk : figs l < 60) (e : l[figs l]? = some c) : dg c = false := by
  unfold figs at hk e
  rw [if_neg h] at hk e
  exact cnt_end 60 l c hk e
theorem dval_snoc (l : List Nat) (c : Nat) : dval (l ++ [c]) = 10 * dval l + (c - 48) := by
  unfold dval
  rw [List.foldl_append]
  rfl
theorem dval_cons_pos : ∀ (l : List Nat) (a : Nat), 1 ≤ a → 1 ≤ l.foldl (fun a c => 10 * a + (c - 48)) a
  | [], a, h => h
  | c :: l, a, h => dval_cons_pos l (10 * a + (c - 48)) (by omega)
/-- a list of figures, not with a 0 ahead, is the text of its value -/
theorem num_dval : ∀ (k : Nat) (l : List Nat), l.length = k → l ≠ [] → l.head? ≠ some 48 → (∀ c ∈ l, dg c = true) → numL (dval l) = l := by
  intro k
  induction k with
  | zero => intro l hl hne _ _; exact absurd (List.eq_nil_of_length_eq_zero hl) hne
  | succ k ih =>
    intro l hl hne hh hd
    have e := List.dropLast_concat_getLast hne
    generalize l.dropLast = m at e
    generalize l.getLast hne = c at e
    subst e
    have hc : dg c = true := hd c (by simp)
    unfold dg at hc
    have hc := of_decide_eq_true hc
    rw [dval_snoc]
    cases m with
    | nil =>
      simp at hh
      show numL (10 * 0 + (c - 48)) = [c]
      rw [TL.numL_lt (by omega)]
      congr 1
      omega
    | cons d m =>
      have hm := ih (d :: m) (by simp at hl ⊢; omega) (by simp) (by simpa using hh) (fun x hx => hd x (List.mem_append_left _ hx))
      have hdd : dg d = true := hd d (by simp)
      unfold dg at hdd
      have hdd := of_decide_eq_true hdd
      simp at hh
      have p : 1 ≤ dval (d :: m) := by
        unfold dval
        rw [List.foldl_cons]
        exact dval_cons_pos m _ (by omega)
      rw [TL.numL_step (by omega)]
      have e1 : (10 * dval (d :: m) + (c - 48)) / 10 = dval (d :: m) := by omega
      have e2 : 48 + (10 * dval (d :: m) + (c - 48)) % 10 = c := by omega
      rw [e1, e2, hm]
theorem num_figs {l : List Nat} (h : 1 ≤ figs l) : numL (dval (l.take (figs l))) = l.take (figs l) := by
  have hle := (figs_le l).2
  by_cases e : l.head? = some 48
  · rw [figs_48 e]
    cases l with
    | nil => cases e
    | cons c l =>
      cases e
      show numL (10 * 0 + (48 - 48)) = [48]
      exact num_0
  · refine num_dval _ _ rfl ?_ ?_ ?_
    · intro z
      have := congrArg List.length z
      rw [List.length_take, List.length_nil] at this
      omega
    · rw [List.head?_take, if_neg (by omega)]
      exact e
    · intro c hc
      obtain ⟨j, hj⟩ := List.mem_iff_getElem?.mp hc
      have hjl := (List.getElem?_eq_some_iff.mp hj).1
      rw [List.length_take] at hjl
      obtain ⟨d, h1, h2⟩ := figs_dg (l := l) (j := j) (by omega)
      rw [List.getElem?_take_of_lt (by omega), h1] at hj
      cases hj
      exact h2
def sz (cs : List Nat) (i : Nat) : Nat := figs (cs.drop i)
def vl (cs : List Nat) (i : Nat) : Nat := dval ((cs.drop i).take (sz cs i))
theorem sz_le (cs : List Nat) (i : Nat) : sz cs i ≤ 60 ∧ i + sz cs i ≤ max i cs.length := by
  have := figs_le (cs.drop i)
  rw [List.length_drop] at this
  unfold sz
  omega
theorem num_vl {cs : List Nat} {i : Nat} (h : 1 ≤ sz cs i) : numL (vl cs i) = (cs.drop i).take (sz cs i) := num_figs h
theorem fig_vl {cs : List Nat} {i : Nat} (h : 1 ≤ sz cs i) : (numL (vl cs i)).length ≤ 60 := by
  rw [num_vl h, List.length_take]
  have := (sz_le cs i).1
  omega
theorem int_vl {cs : List Nat} {i : Nat} {h : Hs} (q : 1 ≤ sz cs i) : bInt [.str (S ((cs.drop i).take (sz cs i)))] h = .ok (.int (vl cs i : Nat)) h := by
  rw [← num_vl q]
  exact int_num (fig_vl q)
theorem vl_lt {cs : List Nat} {i : Nat} (h : 1 ≤ sz cs i) : vl cs i < 1000000000000000000000000000000000000000000000000000000000000 := by
  have e := fig_vl h
  have z : ∀ (k m : Nat), (numL m).length ≤ k → m < 10 ^ k := by
    intro k
    induction k with
    | zero => intro m hm; have := num_pos m; omega
    | succ k ih =>
      intro m hm
      by_cases hk : m < 10
      · have : 10 ^ 1 ≤ 10 ^ (k + 1) := Nat.pow_le_pow_right (by decide) (by omega)
        omega
      · rw [TL.numL_step (by omega), List.length_append] at hm
        have := ih (m / 10) (by simp at hm; omega)
        rw [Nat.pow_succ]
        omega
  exact Nat.lt_of_lt_of_le (z 60 _ e) (by decide)
/-- one sign of a text -/
theorem take1 (cs : List Nat) (i c : Nat) : ((cs.drop i).take 1 = [c]) = (cs[i]? = some c) := by
  refine propext ?_
  rw [← List.head?_drop]
  cases cs.drop i with
  | nil => simp
  | cons d l => simp
theorem head_dr (cs : List Nat) (i : Nat) : (cs.drop i).head? = cs[i]? := List.head?_drop
def pE (i : Nat) : Xn := ⟨"ParseError", some ("index", .int (i : Int))⟩
section
variable {n : Nat} {h : Hs} {cs : List Nat} {i : Nat}
theorem require_sign_E {c : Nat} (hl : cs.length ≤ 3000) (hs : sm cs = true) (hc : sm [c] = true) : f_require_sign n [.str (S cs), .int (i : Int), .str (S [c])] h = if cs[i]? = some c then .ok (.int ((i + 1 : Nat) : Int)) h else .ex (pE i) h := by
  by_cases e : cs[i]? = some c
  · rw [if_pos e]
    exact require_sign_ok hl hs (by rw [take1]; exact e)
  · rw [if_neg e]
    refine Ev.isEx (ev_body rfl ?_)
    have et : ¬ ((cs.drop i).take 1 = [c]) := by rw [take1]; exact e
    simp only [d_require_sign, seqD, raiseD, raiseVD, par3D, ex_bind, ev_ex, es_ex, ifD, retD, retND, dropD, setD, nextD, varD, conD, bin2, un1, testD, boolR, notT, andT, orT, ifE, andV, orV, notV, tupD, lstD, cbD, nilD, consD, asgD, parD, nameG, tupG, consG, nilG, setItD, augD, augItD, methD, forD, whileD, lcD, lc2D, sliceD, someD, noneD, chain3, truD, truR, orTD, andTD, notTD, joinedD, glueD, lstRg, rg1, rg2, itRg1, itRg2, itSeq, itEn, dnewKD, newK, newL, maxKD, yesT, wipeA, cmpI, add_I, sub_I, negA, ok_bind, sizeLine_eq, Nat.reduceLeDiff, eq_I, isi_tup, isi_str, isi_int, isi_boo, len_tup, qlt, qle, qgt, qge, rg_if, ev_ok, ev_bind, ev_if, ev_call, es_nx, es_rt, es_seq, es_then, es_if, List.getElem?_cons_succ, List.getElem?_cons_zero, List.set_cons_succ, List.set_cons_zero, List.length_cons, List.length_nil, List.map_cons, List.map_nil, List.replicate, List.cons_append, List.nil_append, Option.bind_some, Option.map_some, Bool.not_true, Bool.not_false, Bool.false_eq_true, if_true, if_false, decide_true, decide_false, true_and, and_true, Nat.zero_add, Nat.add_zero, Nat.reduceAdd, Nat.reduceSub, reduceIte, Nat.sub_self, Nat.succ_sub_succ_eq_sub, Nat.add_one_sub_one, addA, nat1, sl_S (show cs.length ≤ 16777216 by omega), eq_S (sm_cut hs) hc, et]
    all_goals first | trivial | rfl | exact ⟨rfl, rfl⟩
end
section
variable {n : Nat} {h : Hs} {cs : List Nat} {i : Nat}
theorem require_end_E (hl : cs.length ≤ 3000) : f_require_end n [.str (S cs), .int (i : Int)] h = if i < cs.length then .ex (pE i) h else .ok .non h := by
  by_cases e : i < cs.length
  · rw [if_pos e]
    refine Ev.isEx (ev_body rfl ?_)
    simp only [d_require_end, seqD, raiseD, raiseVD, par3D, ex_bind, ev_ex, es_ex, ifD, retD, retND, dropD, setD, nextD, varD, conD, bin2, un1, testD, boolR, notT, andT, orT, ifE, andV, orV, notV, tupD, lstD, cbD, nilD, consD, asgD, parD, nameG, tupG, consG, nilG, setItD, augD, augItD, methD, forD, whileD, lcD, lc2D, sliceD, someD, noneD, chain3, truD, truR, orTD, andTD, notTD, joinedD, glueD, lstRg, rg1, rg2, itRg1, itRg2, itSeq, itEn, dnewKD, newK, newL, maxKD, yesT, wipeA, cmpI, add_I, sub_I, negA, ok_bind, sizeLine_eq, Nat.reduceLeDiff, eq_I, isi_tup, isi_str, isi_int, isi_boo, len_tup, qlt, qle, qgt, qge, rg_if, ev_ok, ev_bind, ev_if, ev_call, es_nx, es_rt, es_seq, es_then, es_if, List.getElem?_cons_succ, List.getElem?_cons_zero, List.set_cons_succ, List.set_cons_zero, List.length_cons, List.length_nil, List.map_cons, List.map_nil, List.replicate, List.cons_append, List.nil_append, Option.bind_some, Option.map_some, Bool.not_true, Bool.not_false, Bool.false_eq_true, if_true, if_false, decide_true, decide_false, true_and, and_true, Nat.zero_add, Nat.add_zero, Nat.reduceAdd, Nat.reduceSub, reduceIte, Nat.sub_self, Nat.succ_sub_succ_eq_sub, Nat.add_one_sub_one, len_S (show cs.length ≤ 16777216 by omega), natLt, e]
    all_goals first | trivial | rfl | exact ⟨rfl, rfl⟩
  · rw [if_neg e]
    refine Ev.isOk (ev_body rfl ?_)
    simp only [d_require_end, seqD, raiseD, raiseVD, par3D, ex_bind, ev_ex, es_ex, ifD, retD, retND, dropD, setD, nextD, varD, conD, bin2, un1, testD, boolR, notT, andT, orT, ifE, andV, orV, notV, tupD, lstD, cbD, nilD, consD, asgD, parD, nameG, tupG, consG, nilG, setItD, augD, augItD, methD, forD, whileD, lcD, lc2D, sliceD, someD, noneD, chain3, truD, truR, orTD, andTD, notTD, joinedD, glueD, lstRg, rg1, rg2, itRg1, itRg2, itSeq, itEn, dnewKD, newK, newL, maxKD, yesT, wipeA, cmpI, add_I, sub_I, negA, ok_bind, sizeLine_eq, Nat.reduceLeDiff, eq_I, isi_tup, isi_str, isi_int, isi_boo, len_tup, qlt, qle, qgt, qge, rg_if, ev_ok, ev_bind, ev_if, ev_call, es_nx, es_rt, es_seq, es_then, es_if, List.getElem?_cons_succ, List.getElem?_cons_zero, List.set_cons_succ, List.set_cons_zero, List.length_cons, List.length_nil, List.map_cons, List.map_nil, List.replicate, List.cons_append, List.nil_append, Option.bind_some, Option.map_some, Bool.not_true, Bool.not_false, Bool.false_eq_true, if_true, if_false, decide_true, decide_false, true_and, and_true, Nat.zero_add, Nat.add_zero, Nat.reduceAdd, Nat.reduceSub, reduceIte, Nat.sub_self, Nat.succ_sub_succ_eq_sub, Nat.add_one_sub_one, len_S (show cs.length ≤ 16777216 by omega), natLt, e, and_self]
end
section
variable {n : Nat} {h : Hs} {cs : List Nat} {i : Nat}
theorem plain_at_E (hn : 5000 ≤ n) (hl : cs.length ≤ 3000) (hs : sm cs = true) : f_plain_at n [.str (S cs), .int (i : Int)] h = if sz cs i = 0 then .ex (pE i) h else .ok (.tup [.int (vl cs i : Nat), .int ((i + sz cs i : Nat) : Int)]) h := by
  have hl2 : cs.length ≤ 16777216 := by omega
  have hle := sz_le cs i
  have body : ∀ T : Tl, T.bk = (fun _ _ => False) → T.ct = (fun _ _ => False) → (sz cs i = 0 → ∀ s, T.ex (pE i) s h) → (sz cs i ≠ 0 → T.rt (.tup [.int (vl cs i : Nat), .int ((i + sz cs i : Nat) : Int)]) h) →
      EvS (d_plain_at n [some (.str (S cs)), some (.int (i : Int)), none, none] h) T := by
    intro T _ _ hT1 hT2
    unfold d_plain_at
    refine step_seq (fun s h' => ∃ most : Nat, s = [some (.str (S cs)), some (.int (i : Int)), some (.int (i : Int)), some (.int (most : Int))] ∧ h' = h ∧ (cs[i]? = some 48 → most = i + 1) ∧ (cs[i]? ≠ some 48 → most = i + 60)) ?_ ?_
    · by_cases z : cs[i]? = some 48
      · have et : (cs.drop i).take 1 = [48] := by rw [take1]; exact z
        simp only [seqD, raiseD, raiseVD, par3D, ex_bind, ev_ex, es_ex, ifD, retD, retND, dropD, setD, nextD, varD, conD, bin2, un1, testD, boolR, notT, andT, orT, ifE, andV, orV, notV, tupD, lstD, cbD, nilD, consD, asgD, parD, nameG, tupG, consG, nilG, setItD, augD, augItD, methD, forD, whileD, lcD, lc2D, sliceD, someD, noneD, chain3, truD, truR, orTD, andTD, notTD, joinedD, glueD, lstRg, rg1, rg2, itRg1, itRg2, itSeq, itEn, dnewKD, newK, newL, maxKD, yesT, wipeA, cmpI, add_I, sub_I, negA, ok_bind, sizeLine_eq, Nat.reduceLeDiff, eq_I, isi_tup, isi_str, isi_int, isi_boo, len_tup, qlt, qle, qgt, qge, rg_if, ev_ok, ev_bind, ev_if, ev_call, es_nx, es_rt, es_seq, es_then, es_if, List.getElem?_cons_succ, List.getElem?_cons_zero, List.set_cons_succ, List.set_cons_zero, List.length_cons, List.length_nil, List.map_cons, List.map_nil, List.replicate, List.cons_append, List.nil_append, Option.bind_some, Option.map_some, Bool.not_true, Bool.not_false, Bool.false_eq_true, if_true, if_false, decide_true, decide_false, true_and, and_true, Nat.zero_add, Nat.add_zero, Nat.reduceAdd, Nat.reduceSub, reduceIte, Nat.sub_self, Nat.succ_sub_succ_eq_sub, Nat.add_one_sub_one, addA, nat1, sl_S hl2, c_lp, c_rp, c_sp, c_co, c_lb, c_rb, c_mi, c_pl, c_0, c_un, c_m0, c_em, c_sm, c_ss, c_fi, m_lp, m_rp, m_sp, m_co, m_lb, m_rb, m_mi, m_pl, m_0, m_un, m_m0, m_em, m_sm, m_ss, eq_S, sm_cut hs, et]
        exact ⟨i + 1, rfl, fun _ => rfl, fun y => absurd z y⟩
      · have et : ¬ ((cs.drop i).take 1 = [48]) := by rw [take1]; exact z
        simp only [seqD, raiseD, raiseVD, par3D, ex_bind, ev_ex, es_ex, ifD, retD, retND, dropD, setD, nextD, varD, conD, bin2, un1, testD, boolR, notT, andT, orT, ifE, andV, orV, notV, tupD, lstD, cbD, nilD, consD, asgD, parD, nameG, tupG, consG, nilG, setItD, augD, augItD, methD, forD, whileD, lcD, lc2D, sliceD, someD, noneD, chain3, truD, truR, orTD, andTD, notTD, joinedD, glueD, lstRg, rg1, rg2, itRg1, itRg2, itSeq, itEn, dnewKD, newK, newL, maxKD, yesT, wipeA, cmpI, add_I, sub_I, negA, ok_bind, sizeLine_eq, Nat.reduceLeDiff, eq_I, isi_tup, isi_str, isi_int, isi_boo, len_tup, qlt, qle, qgt, qge, rg_if, ev_ok, ev_bind, ev_if, ev_call, es_nx, es_rt, es_seq, es_then, es_if, List.getElem?_cons_succ, List.getElem?_cons_zero, List.set_cons_succ, List.set_cons_zero, List.length_cons, List.length_nil, List.map_cons, List.map_nil, List.replicate, List.cons_append, List.nil_append, Option.bind_some, Option.map_some, Bool.not_true, Bool.not_false, Bool.false_eq_true, if_true, if_false, decide_true, decide_false, true_and, and_true, Nat.zero_add, Nat.add_zero, Nat.reduceAdd, Nat.reduceSub, reduceIte, Nat.sub_self, Nat.succ_sub_succ_eq_sub, Nat.add_one_sub_one, addA, nat1, nat60, sl_S hl2, c_lp, c_rp, c_sp, c_co, c_lb, c_rb, c_mi, c_pl, c_0, c_un, c_m0, c_em, c_sm, c_ss, c_fi, m_lp, m_rp, m_sp, m_co, m_lb, m_rb, m_mi, m_pl, m_0, m_un, m_m0, m_em, m_sm, m_ss, eq_S, sm_cut hs, et]
        exact ⟨i + 60, rfl, fun y => absurd y z, fun _ => rfl⟩
    rintro s h' ⟨most, rfl, rfl, hm1, hm2⟩
    refine step_seq (fun s h'' => s = [some (.str (S cs)), some (.int (i : Int)), some (.int ((i + sz cs i : Nat) : Int)), some (.int (most : Int))] ∧ h'' = h') ?_ ?_
    · refine while_m (fun k s h'' => ∃ j, j ≤ sz cs i ∧ k = sz cs i - j ∧ s = [some (.str (S cs)), some (.int (i : Int)), some (.int ((i + j : Nat) : Int)), some (.int (most : Int))] ∧ h'' = h') ?_ n (sz cs i) _ _ (by omega) ⟨0, Nat.zero_le _, rfl, rfl, rfl⟩
      rintro k s h'' ⟨j, hj, rfl, rfl, rfl⟩
      have emin : (if (most : Int) < (cs.length : Int) then (most : Int) else (cs.length : Int)) = ((min cs.length most : Nat) : Int) := by
        split <;> omega
      simp only [seqD, raiseD, raiseVD, par3D, ex_bind, ev_ex, es_ex, ifD, retD, retND, dropD, setD, nextD, varD, conD, bin2, un1, testD, boolR, notT, andT, orT, ifE, andV, orV, notV, tupD, lstD, cbD, nilD, consD, asgD, parD, nameG, tupG, consG, nilG, setItD, augD, augItD, methD, forD, whileD, lcD, lc2D, sliceD, someD, noneD, chain3, truD, truR, orTD, andTD, notTD, joinedD, glueD, lstRg, rg1, rg2, itRg1, itRg2, itSeq, itEn, dnewKD, newK, newL, maxKD, yesT, wipeA, cmpI, add_I, sub_I, negA, ok_bind, sizeLine_eq, Nat.reduceLeDiff, eq_I, isi_tup, isi_str, isi_int, isi_boo, len_tup, qlt, qle, qgt, qge, rg_if, ev_ok, ev_bind, ev_if, ev_call, es_nx, es_rt, es_seq, es_then, es_if, List.getElem?_cons_succ, List.getElem?_cons_zero, List.set_cons_succ, List.set_cons_zero, List.length_cons, List.length_nil, List.map_cons, List.map_nil, List.replicate, List.cons_append, List.nil_append, Option.bind_some, Option.map_some, Bool.not_true, Bool.not_false, Bool.false_eq_true, if_true, if_false, decide_true, decide_false, true_and, and_true, Nat.zero_add, Nat.add_zero, Nat.reduceAdd, Nat.reduceSub, reduceIte, Nat.sub_self, Nat.succ_sub_succ_eq_sub, Nat.add_one_sub_one, len_S hl2, min2, emin]
      by_cases hjs : j < sz cs i
      · obtain ⟨c, hc, hd⟩ := figs_dg hjs
        rw [List.getElem?_drop] at hc
        have hlt := (List.getElem?_eq_some_iff.mp hc).1
        have hmo : i + j < most := by
          by_cases z : cs[i]? = some 48
          · have := figs_48 (l := cs.drop i) (by rw [head_dr]; exact z)
            unfold sz at hjs
            rw [hm1 z]; omega
          · rw [hm2 z]; omega
        have hlt2 : ((i + j : Nat) : Int) < ((min cs.length most : Nat) : Int) := by omega
        unfold dg at hd
        have hd := of_decide_eq_true hd
        simp only [hlt2, seqD, raiseD, raiseVD, par3D, ex_bind, ev_ex, es_ex, ifD, retD, retND, dropD, setD, nextD, varD, conD, bin2, un1, testD, boolR, notT, andT, orT, ifE, andV, orV, notV, tupD, lstD, cbD, nilD, consD, asgD, parD, nameG, tupG, consG, nilG, setItD, augD, augItD, methD, forD, whileD, lcD, lc2D, sliceD, someD, noneD, chain3, truD, truR, orTD, andTD, notTD, joinedD, glueD, lstRg, rg1, rg2, itRg1, itRg2, itSeq, itEn, dnewKD, newK, newL, maxKD, yesT, wipeA, cmpI, add_I, sub_I, negA, ok_bind, sizeLine_eq, Nat.reduceLeDiff, eq_I, isi_tup, isi_str, isi_int, isi_boo, len_tup, qlt, qle, qgt, qge, rg_if, ev_ok, ev_bind, ev_if, ev_call, es_nx, es_rt, es_seq, es_then, es_if, List.getElem?_cons_succ, List.getElem?_cons_zero, List.set_cons_succ, List.set_cons_zero, List.length_cons, List.length_nil, List.map_cons, List.map_nil, List.replicate, List.cons_append, List.nil_append, Option.bind_some, Option.map_some, Bool.not_true, Bool.not_false, Bool.false_eq_true, if_true, if_false, decide_true, decide_false, true_and, and_true, Nat.zero_add, Nat.add_zero, Nat.reduceAdd, Nat.reduceSub, reduceIte, Nat.sub_self, Nat.succ_sub_succ_eq_sub, Nat.add_one_sub_one, ix_S hl2 hc, c_lp, c_rp, c_sp, c_co, c_lb, c_rb, c_mi, c_pl, c_0, c_un, c_m0, c_em, c_sm, c_ss, c_fi, m_lp, m_rp, m_sp, m_co, m_lb, m_rb, m_mi, m_pl, m_0, m_un, m_m0, m_em, m_sm, m_ss, in_fig, hd, and_self]
        refine ⟨sz cs i - (j + 1), by omega, j + 1, hjs, rfl, ?_⟩
        rw [nat1]
        rfl
      · have ej : j = sz cs i := by omega
        subst ej
        by_cases hlt : ((i + sz cs i : Nat) : Int) < ((min cs.length most : Nat) : Int)
        · have hc : cs[i + sz cs i]? = some cs[i + sz cs i] := List.getElem?_eq_getElem (by omega)
          have q3 : ¬ (48 ≤ cs[i + sz cs i] ∧ cs[i + sz cs i] ≤ 57) := by
            by_cases z : cs[i]? = some 48
            · have := figs_48 (l := cs.drop i) (by rw [head_dr]; exact z)
              have e2 : sz cs i = 1 := this
              rw [hm1 z] at hlt
              omega
            · rw [hm2 z] at hlt
              have := figs_end (l := cs.drop i) (by rw [head_dr]; exact z) (c := cs[i + sz cs i]) (by show sz cs i < 60; omega) (by rw [List.getElem?_drop]; exact hc)
              exact of_decide_eq_false this
          simp only [hlt, seqD, raiseD, raiseVD, par3D, ex_bind, ev_ex, es_ex, ifD, retD, retND, dropD, setD, nextD, varD, conD, bin2, un1, testD, boolR, notT, andT, orT, ifE, andV, orV, notV, tupD, lstD, cbD, nilD, consD, asgD, parD, nameG, tupG, consG, nilG, setItD, augD, augItD, methD, forD, whileD, lcD, lc2D, sliceD, someD, noneD, chain3, truD, truR, orTD, andTD, notTD, joinedD, glueD, lstRg, rg1, rg2, itRg1, itRg2, itSeq, itEn, dnewKD, newK, newL, maxKD, yesT, wipeA, cmpI, add_I, sub_I, negA, ok_bind, sizeLine_eq, Nat.reduceLeDiff, eq_I, isi_tup, isi_str, isi_int, isi_boo, len_tup, qlt, qle, qgt, qge, rg_if, ev_ok, ev_bind, ev_if, ev_call, es_nx, es_rt, es_seq, es_then, es_if, List.getElem?_cons_succ, List.getElem?_cons_zero, List.set_cons_succ, List.set_cons_zero, List.length_cons, List.length_nil, List.map_cons, List.map_nil, List.replicate, List.cons_append, List.nil_append, Option.bind_some, Option.map_some, Bool.not_true, Bool.not_false, Bool.false_eq_true, if_true, if_false, decide_true, decide_false, true_and, and_true, Nat.zero_add, Nat.add_zero, Nat.reduceAdd, Nat.reduceSub, reduceIte, Nat.sub_self, Nat.succ_sub_succ_eq_sub, Nat.add_one_sub_one, ix_S hl2 hc, c_lp, c_rp, c_sp, c_co, c_lb, c_rb, c_mi, c_pl, c_0, c_un, c_m0, c_em, c_sm, c_ss, c_fi, m_lp, m_rp, m_sp, m_co, m_lb, m_rb, m_mi, m_pl, m_0, m_un, m_m0, m_em, m_sm, m_ss, in_fig, q3, and_self]
        · simp only [hlt, seqD, raiseD, raiseVD, par3D, ex_bind, ev_ex, es_ex, ifD, retD, retND, dropD, setD, nextD, varD, conD, bin2, un1, testD, boolR, notT, andT, orT, ifE, andV, orV, notV, tupD, lstD, cbD, nilD, consD, asgD, parD, nameG, tupG, consG, nilG, setItD, augD, augItD, methD, forD, whileD, lcD, lc2D, sliceD, someD, noneD, chain3, truD, truR, orTD, andTD, notTD, joinedD, glueD, lstRg, rg1, rg2, itRg1, itRg2, itSeq, itEn, dnewKD, newK, newL, maxKD, yesT, wipeA, cmpI, add_I, sub_I, negA, ok_bind, sizeLine_eq, Nat.reduceLeDiff, eq_I, isi_tup, isi_str, isi_int, isi_boo, len_tup, qlt, qle, qgt, qge, rg_if, ev_ok, ev_bind, ev_if, ev_call, es_nx, es_rt, es_seq, es_then, es_if, List.getElem?_cons_succ, List.getElem?_cons_zero, List.set_cons_succ, List.set_cons_zero, List.length_cons, List.length_nil, List.map_cons, List.map_nil, List.replicate, List.cons_append, List.nil_append, Option.bind_some, Option.map_some, Bool.not_true, Bool.not_false, Bool.false_eq_true, if_true, if_false, decide_true, decide_false, true_and, and_true, Nat.zero_add, Nat.add_zero, Nat.reduceAdd, Nat.reduceSub, reduceIte, Nat.sub_self, Nat.succ_sub_succ_eq_sub, Nat.add_one_sub_one, and_self]
    · rintro s h'' ⟨rfl, rfl⟩
      by_cases z : sz cs i = 0
      · have e : ((i + sz cs i : Nat) : Int) = (i : Int) := by omega
        simp only [seqD, raiseD, raiseVD, par3D, ex_bind, ev_ex, es_ex, ifD, retD, retND, dropD, setD, nextD, varD, conD, bin2, un1, testD, boolR, notT, andT, orT, ifE, andV, orV, notV, tupD, lstD, cbD, nilD, consD, asgD, parD, nameG, tupG, consG, nilG, setItD, augD, augItD, methD, forD, whileD, lcD, lc2D, sliceD, someD, noneD, chain3, truD, truR, orTD, andTD, notTD, joinedD, glueD, lstRg, rg1, rg2, itRg1, itRg2, itSeq, itEn, dnewKD, newK, newL, maxKD, yesT, wipeA, cmpI, add_I, sub_I, negA, ok_bind, sizeLine_eq, Nat.reduceLeDiff, eq_I, isi_tup, isi_str, isi_int, isi_boo, len_tup, qlt, qle, qgt, qge, rg_if, ev_ok, ev_bind, ev_if, ev_call, es_nx, es_rt, es_seq, es_then, es_if, List.getElem?_cons_succ, List.getElem?_cons_zero, List.set_cons_succ, List.set_cons_zero, List.length_cons, List.length_nil, List.map_cons, List.map_nil, List.replicate, List.cons_append, List.nil_append, Option.bind_some, Option.map_some, Bool.not_true, Bool.not_false, Bool.false_eq_true, if_true, if_false, decide_true, decide_false, true_and, and_true, Nat.zero_add, Nat.add_zero, Nat.reduceAdd, Nat.reduceSub, reduceIte, Nat.sub_self, Nat.succ_sub_succ_eq_sub, Nat.add_one_sub_one, raiseVD, e]
        exact hT1 z _
      · have hne : ¬ (((i + sz cs i : Nat) : Int) = (i : Int)) := by omega
        simp only [seqD, raiseD, raiseVD, par3D, ex_bind, ev_ex, es_ex, ifD, retD, retND, dropD, setD, nextD, varD, conD, bin2, un1, testD, boolR, notT, andT, orT, ifE, andV, orV, notV, tupD, lstD, cbD, nilD, consD, asgD, parD, nameG, tupG, consG, nilG, setItD, augD, augItD, methD, forD, whileD, lcD, lc2D, sliceD, someD, noneD, chain3, truD, truR, orTD, andTD, notTD, joinedD, glueD, lstRg, rg1, rg2, itRg1, itRg2, itSeq, itEn, dnewKD, newK, newL, maxKD, yesT, wipeA, cmpI, add_I, sub_I, negA, ok_bind, sizeLine_eq, Nat.reduceLeDiff, eq_I, isi_tup, isi_str, isi_int, isi_boo, len_tup, qlt, qle, qgt, qge, rg_if, ev_ok, ev_bind, ev_if, ev_call, es_nx, es_rt, es_seq, es_then, es_if, List.getElem?_cons_succ, List.getElem?_cons_zero, List.set_cons_succ, List.set_cons_zero, List.length_cons, List.length_nil, List.map_cons, List.map_nil, List.replicate, List.cons_append, List.nil_append, Option.bind_some, Option.map_some, Bool.not_true, Bool.not_false, Bool.false_eq_true, if_true, if_false, decide_true, decide_false, true_and, and_true, Nat.zero_add, Nat.add_zero, Nat.reduceAdd, Nat.reduceSub, reduceIte, Nat.sub_self, Nat.succ_sub_succ_eq_sub, Nat.add_one_sub_one, raiseVD, hne, sl_S hl2, int_vl (show 1 ≤ sz cs i by omega)]
        exact hT2 z
  by_cases z : sz cs i = 0
  · rw [if_pos z]
    exact Ev.isEx (ev_body rfl (body _ rfl rfl (fun _ s => ⟨rfl, rfl⟩) fun y => absurd z y))
  · rw [if_neg z]
    exact Ev.isOk (ev_body rfl (body _ rfl rfl (fun y => absurd y z) fun _ => ⟨rfl, rfl⟩))
end
inductive Bd | move | row | kinds
deriving DecidableEq
def Bd.cls : Bd → Str
  | .move => "InvalidMove"
  | .row => "InvalidRow"
  | .kinds => "InvalidKinds"
def Bd.word : Bd → Str
  | .move => "move"
  | .row => "row"
  | .kinds => "kinds"
inductive Out
  | told (xs : List Int)
  | parse (e : Nat)
  | bad (b : Bd)
deriving DecidableEq
/-- raised -/
def Out.X : Out → Xn → Prop
  | .told _, _ => False
  | .parse e, x => x = pE e
  | .bad b, x => x = ⟨b.cls, none⟩
/-- returned -/
def Out.V : Out → A → Prop
  | .told xs, a => a = .tup (xs.map A.int)
  | _, _ => False
theorem sz_in {cs : List Nat} {i : Nat} (h : sz cs i ≠ 0) : i + sz cs i ≤ cs.length := by
  have := sz_le cs i
  omega
theorem sgn_len {cs : List Nat} {i c : Nat} (e : cs[i]? = some c) : i < cs.length := (List.getElem?_eq_some_iff.mp e).1
def signed (cs : List Nat) (i : Nat) : Except Nat (Int × Nat) :=
  if cs[i]? = some 45 then
    (if cs[i + 1]? = some 48 then .error (i + 1) else if sz cs (i + 1) = 0 then .error (i + 1) else .ok (-(vl cs (i + 1) : Int), i + 1 + sz cs (i + 1)))
  else if sz cs i = 0 then .error i else .ok ((vl cs i : Int), i + sz cs i)
theorem signed_in {cs : List Nat} {i j : Nat} {z : Int} (e : signed cs i = .ok (z, j)) : i < j ∧ j ≤ cs.length := by
  unfold signed at e
  split at e
  · split at e
    · cases e
    · split at e
      · cases e
      · rename_i h
        cases e
        have := sz_in h
        omega
  · split at e
    · cases e
    · rename_i h
      cases e
      have := sz_in h
      omega
section
variable {n : Nat} {h : Hs} {cs : List Nat} {i : Nat}
theorem signed_at_E (hn : 5000 ≤ n) (hl : cs.length ≤ 3000) (hs : sm cs = true) : f_signed_at n [.str (S cs), .int (i : Int)] h = match signed cs i with
    | .error e => .ex (pE e) h
    | .ok (z, j) => .ok (.tup [.int z, .int (j : Int)]) h := by
  have hl2 : cs.length ≤ 16777216 := by omega
  unfold signed
  by_cases e1 : cs[i]? = some 45
  · rw [if_pos e1]
    by_cases e2 : cs[i + 1]? = some 48
    · rw [if_pos e2]
      refine Ev.isEx (ev_body rfl ?_)
      simp only [d_signed_at, seqD, raiseD, raiseVD, par3D, ex_bind, ev_ex, es_ex, ifD, retD, retND, dropD, setD, nextD, varD, conD, bin2, un1, testD, boolR, notT, andT, orT, ifE, andV, orV, notV, tupD, lstD, cbD, nilD, consD, asgD, parD, nameG, tupG, consG, nilG, setItD, augD, augItD, methD, forD, whileD, lcD, lc2D, sliceD, someD, noneD, chain3, truD, truR, orTD, andTD, notTD, joinedD, glueD, lstRg, rg1, rg2, itRg1, itRg2, itSeq, itEn, dnewKD, newK, newL, maxKD, yesT, wipeA, cmpI, add_I, sub_I, negA, ok_bind, sizeLine_eq, Nat.reduceLeDiff, eq_I, isi_tup, isi_str, isi_int, isi_boo, len_tup, qlt, qle, qgt, qge, rg_if, ev_ok, ev_bind, ev_if, ev_call, es_nx, es_rt, es_seq, es_then, es_if, List.getElem?_cons_succ, List.getElem?_cons_zero, List.set_cons_succ, List.set_cons_zero, List.length_cons, List.length_nil, List.map_cons, List.map_nil, List.replicate, List.cons_append, List.nil_append, Option.bind_some, Option.map_some, Bool.not_true, Bool.not_false, Bool.false_eq_true, if_true, if_false, decide_true, decide_false, true_and, and_true, Nat.zero_add, Nat.add_zero, Nat.reduceAdd, Nat.reduceSub, reduceIte, Nat.sub_self, Nat.succ_sub_succ_eq_sub, Nat.add_one_sub_one, addA, nat1, nat2, sl_S hl2, c_lp, c_rp, c_sp, c_co, c_lb, c_rb, c_mi, c_pl, c_0, c_un, c_m0, c_em, c_sm, c_ss, c_fi, m_lp, m_rp, m_sp, m_co, m_lb, m_rb, m_mi, m_pl, m_0, m_un, m_m0, m_em, m_sm, m_ss, eq_S, sm_cut hs, take1, e1]
      rw [show i + 2 = i + 1 + 1 from rfl, sl_S hl2]
      simp only [seqD, raiseD, raiseVD, par3D, ex_bind, ev_ex, es_ex, ifD, retD, retND, dropD, setD, nextD, varD, conD, bin2, un1, testD, boolR, notT, andT, orT, ifE, andV, orV, notV, tupD, lstD, cbD, nilD, consD, asgD, parD, nameG, tupG, consG, nilG, setItD, augD, augItD, methD, forD, whileD, lcD, lc2D, sliceD, someD, noneD, chain3, truD, truR, orTD, andTD, notTD, joinedD, glueD, lstRg, rg1, rg2, itRg1, itRg2, itSeq, itEn, dnewKD, newK, newL, maxKD, yesT, wipeA, cmpI, add_I, sub_I, negA, ok_bind, sizeLine_eq, Nat.reduceLeDiff, eq_I, isi_tup, isi_str, isi_int, isi_boo, len_tup, qlt, qle, qgt, qge, rg_if, ev_ok, ev_bind, ev_if, ev_call, es_nx, es_rt, es_seq, es_then, es_if, List.getElem?_cons_succ, List.getElem?_cons_zero, List.set_cons_succ, List.set_cons_zero, List.length_cons, List.length_nil, List.map_cons, List.map_nil, List.replicate, List.cons_append, List.nil_append, Option.bind_some, Option.map_some, Bool.not_true, Bool.not_false, Bool.false_eq_true, if_true, if_false, decide_true, decide_false, true_and, and_true, Nat.zero_add, Nat.add_zero, Nat.reduceAdd, Nat.reduceSub, reduceIte, Nat.sub_self, Nat.succ_sub_succ_eq_sub, Nat.add_one_sub_one, c_lp, c_rp, c_sp, c_co, c_lb, c_rb, c_mi, c_pl, c_0, c_un, c_m0, c_em, c_sm, c_ss, c_fi, m_lp, m_rp, m_sp, m_co, m_lb, m_rb, m_mi, m_pl, m_0, m_un, m_m0, m_em, m_sm, m_ss, eq_S, sm_cut hs, take1, e2]
      all_goals first | trivial | rfl | exact ⟨rfl, rfl⟩
    · rw [if_neg e2]
      by_cases e3 : sz cs (i + 1) = 0
      · rw [if_pos e3]
        refine Ev.isEx (ev_body rfl ?_)
        simp only [d_signed_at, seqD, raiseD, raiseVD, par3D, ex_bind, ev_ex, es_ex, ifD, retD, retND, dropD, setD, nextD, varD, conD, bin2, un1, testD, boolR, notT, andT, orT, ifE, andV, orV, notV, tupD, lstD, cbD, nilD, consD, asgD, parD, nameG, tupG, consG, nilG, setItD, augD, augItD, methD, forD, whileD, lcD, lc2D, sliceD, someD, noneD, chain3, truD, truR, orTD, andTD, notTD, joinedD, glueD, lstRg, rg1, rg2, itRg1, itRg2, itSeq, itEn, dnewKD, newK, newL, maxKD, yesT, wipeA, cmpI, add_I, sub_I, negA, ok_bind, sizeLine_eq, Nat.reduceLeDiff, eq_I, isi_tup, isi_str, isi_int, isi_boo, len_tup, qlt, qle, qgt, qge, rg_if, ev_ok, ev_bind, ev_if, ev_call, es_nx, es_rt, es_seq, es_then, es_if, List.getElem?_cons_succ, List.getElem?_cons_zero, List.set_cons_succ, List.set_cons_zero, List.length_cons, List.length_nil, List.map_cons, List.map_nil, List.replicate, List.cons_append, List.nil_append, Option.bind_some, Option.map_some, Bool.not_true, Bool.not_false, Bool.false_eq_true, if_true, if_false, decide_true, decide_false, true_and, and_true, Nat.zero_add, Nat.add_zero, Nat.reduceAdd, Nat.reduceSub, reduceIte, Nat.sub_self, Nat.succ_sub_succ_eq_sub, Nat.add_one_sub_one, addA, nat1, nat2, sl_S hl2, c_lp, c_rp, c_sp, c_co, c_lb, c_rb, c_mi, c_pl, c_0, c_un, c_m0, c_em, c_sm, c_ss, c_fi, m_lp, m_rp, m_sp, m_co, m_lb, m_rb, m_mi, m_pl, m_0, m_un, m_m0, m_em, m_sm, m_ss, eq_S, sm_cut hs, take1, e1]
        rw [show i + 2 = i + 1 + 1 from rfl, sl_S hl2]
        simp only [seqD, raiseD, raiseVD, par3D, ex_bind, ev_ex, es_ex, ifD, retD, retND, dropD, setD, nextD, varD, conD, bin2, un1, testD, boolR, notT, andT, orT, ifE, andV, orV, notV, tupD, lstD, cbD, nilD, consD, asgD, parD, nameG, tupG, consG, nilG, setItD, augD, augItD, methD, forD, whileD, lcD, lc2D, sliceD, someD, noneD, chain3, truD, truR, orTD, andTD, notTD, joinedD, glueD, lstRg, rg1, rg2, itRg1, itRg2, itSeq, itEn, dnewKD, newK, newL, maxKD, yesT, wipeA, cmpI, add_I, sub_I, negA, ok_bind, sizeLine_eq, Nat.reduceLeDiff, eq_I, isi_tup, isi_str, isi_int, isi_boo, len_tup, qlt, qle, qgt, qge, rg_if, ev_ok, ev_bind, ev_if, ev_call, es_nx, es_rt, es_seq, es_then, es_if, List.getElem?_cons_succ, List.getElem?_cons_zero, List.set_cons_succ, List.set_cons_zero, List.length_cons, List.length_nil, List.map_cons, List.map_nil, List.replicate, List.cons_append, List.nil_append, Option.bind_some, Option.map_some, Bool.not_true, Bool.not_false, Bool.false_eq_true, if_true, if_false, decide_true, decide_false, true_and, and_true, Nat.zero_add, Nat.add_zero, Nat.reduceAdd, Nat.reduceSub, reduceIte, Nat.sub_self, Nat.succ_sub_succ_eq_sub, Nat.add_one_sub_one, c_lp, c_rp, c_sp, c_co, c_lb, c_rb, c_mi, c_pl, c_0, c_un, c_m0, c_em, c_sm, c_ss, c_fi, m_lp, m_rp, m_sp, m_co, m_lb, m_rb, m_mi, m_pl, m_0, m_un, m_m0, m_em, m_sm, m_ss, eq_S, sm_cut hs, take1, e2, plain_at_E hn hl hs, e3]
        all_goals first | trivial | rfl | exact ⟨rfl, rfl⟩
      · rw [if_neg e3]
        refine Ev.isOk (ev_body rfl ?_)
        simp only [d_signed_at, seqD, raiseD, raiseVD, par3D, ex_bind, ev_ex, es_ex, ifD, retD, retND, dropD, setD, nextD, varD, conD, bin2, un1, testD, boolR, notT, andT, orT, ifE, andV, orV, notV, tupD, lstD, cbD, nilD, consD, asgD, parD, nameG, tupG, consG, nilG, setItD, augD, augItD, methD, forD, whileD, lcD, lc2D, sliceD, someD, noneD, chain3, truD, truR, orTD, andTD, notTD, joinedD, glueD, lstRg, rg1, rg2, itRg1, itRg2, itSeq, itEn, dnewKD, newK, newL, maxKD, yesT, wipeA, cmpI, add_I, sub_I, negA, ok_bind, sizeLine_eq, Nat.reduceLeDiff, eq_I, isi_tup, isi_str, isi_int, isi_boo, len_tup, qlt, qle, qgt, qge, rg_if, ev_ok, ev_bind, ev_if, ev_call, es_nx, es_rt, es_seq, es_then, es_if, List.getElem?_cons_succ, List.getElem?_cons_zero, List.set_cons_succ, List.set_cons_zero, List.length_cons, List.length_nil, List.map_cons, List.map_nil, List.replicate, List.cons_append, List.nil_append, Option.bind_some, Option.map_some, Bool.not_true, Bool.not_false, Bool.false_eq_true, if_true, if_false, decide_true, decide_false, true_and, and_true, Nat.zero_add, Nat.add_zero, Nat.reduceAdd, Nat.reduceSub, reduceIte, Nat.sub_self, Nat.succ_sub_succ_eq_sub, Nat.add_one_sub_one, addA, nat1, nat2, sl_S hl2, c_lp, c_rp, c_sp, c_co, c_lb, c_rb, c_mi, c_pl, c_0, c_un, c_m0, c_em, c_sm, c_ss, c_fi, m_lp, m_rp, m_sp, m_co, m_lb, m_rb, m_mi, m_pl, m_0, m_un, m_m0, m_em, m_sm, m_ss, eq_S, sm_cut hs, take1, e1]
        rw [show i + 2 = i + 1 + 1 from rfl, sl_S hl2]
        simp only [seqD, raiseD, raiseVD, par3D, ex_bind, ev_ex, es_ex, ifD, retD, retND, dropD, setD, nextD, varD, conD, bin2, un1, testD, boolR, notT, andT, orT, ifE, andV, orV, notV, tupD, lstD, cbD, nilD, consD, asgD, parD, nameG, tupG, consG, nilG, setItD, augD, augItD, methD, forD, whileD, lcD, lc2D, sliceD, someD, noneD, chain3, truD, truR, orTD, andTD, notTD, joinedD, glueD, lstRg, rg1, rg2, itRg1, itRg2, itSeq, itEn, dnewKD, newK, newL, maxKD, yesT, wipeA, cmpI, add_I, sub_I, negA, ok_bind, sizeLine_eq, Nat.reduceLeDiff, eq_I, isi_tup, isi_str, isi_int, isi_boo, len_tup, qlt, qle, qgt, qge, rg_if, ev_ok, ev_bind, ev_if, ev_call, es_nx, es_rt, es_seq, es_then, es_if, List.getElem?_cons_succ, List.getElem?_cons_zero, List.set_cons_succ, List.set_cons_zero, List.length_cons, List.length_nil, List.map_cons, List.map_nil, List.replicate, List.cons_append, List.nil_append, Option.bind_some, Option.map_some, Bool.not_true, Bool.not_false, Bool.false_eq_true, if_true, if_false, decide_true, decide_false, true_and, and_true, Nat.zero_add, Nat.add_zero, Nat.reduceAdd, Nat.reduceSub, reduceIte, Nat.sub_self, Nat.succ_sub_succ_eq_sub, Nat.add_one_sub_one, c_lp, c_rp, c_sp, c_co, c_lb, c_rb, c_mi, c_pl, c_0, c_un, c_m0, c_em, c_sm, c_ss, c_fi, m_lp, m_rp, m_sp, m_co, m_lb, m_rb, m_mi, m_pl, m_0, m_un, m_m0, m_em, m_sm, m_ss, eq_S, sm_cut hs, take1, e2, plain_at_E hn hl hs, e3, and_self]
  · rw [if_neg e1]
    by_cases e3 : sz cs i = 0
    · rw [if_pos e3]
      refine Ev.isEx (ev_body rfl ?_)
      simp only [d_signed_at, seqD, raiseD, raiseVD, par3D, ex_bind, ev_ex, es_ex, ifD, retD, retND, dropD, setD, nextD, varD, conD, bin2, un1, testD, boolR, notT, andT, orT, ifE, andV, orV, notV, tupD, lstD, cbD, nilD, consD, asgD, parD, nameG, tupG, consG, nilG, setItD, augD, augItD, methD, forD, whileD, lcD, lc2D, sliceD, someD, noneD, chain3, truD, truR, orTD, andTD, notTD, joinedD, glueD, lstRg, rg1, rg2, itRg1, itRg2, itSeq, itEn, dnewKD, newK, newL, maxKD, yesT, wipeA, cmpI, add_I, sub_I, negA, ok_bind, sizeLine_eq, Nat.reduceLeDiff, eq_I, isi_tup, isi_str, isi_int, isi_boo, len_tup, qlt, qle, qgt, qge, rg_if, ev_ok, ev_bind, ev_if, ev_call, es_nx, es_rt, es_seq, es_then, es_if, List.getElem?_cons_succ, List.getElem?_cons_zero, List.set_cons_succ, List.set_cons_zero, List.length_cons, List.length_nil, List.map_cons, List.map_nil, List.replicate, List.cons_append, List.nil_append, Option.bind_some, Option.map_some, Bool.not_true, Bool.not_false, Bool.false_eq_true, if_true, if_false, decide_true, decide_false, true_and, and_true, Nat.zero_add, Nat.add_zero, Nat.reduceAdd, Nat.reduceSub, reduceIte, Nat.sub_self, Nat.succ_sub_succ_eq_sub, Nat.add_one_sub_one, addA, nat1, nat2, sl_S hl2, c_lp, c_rp, c_sp, c_co, c_lb, c_rb, c_mi, c_pl, c_0, c_un, c_m0, c_em, c_sm, c_ss, c_fi, m_lp, m_rp, m_sp, m_co, m_lb, m_rb, m_mi, m_pl, m_0, m_un, m_m0, m_em, m_sm, m_ss, eq_S, sm_cut hs, take1, e1, plain_at_E hn hl hs, e3]
      all_goals first | trivial | rfl | exact ⟨rfl, rfl⟩
    · rw [if_neg e3]
      refine Ev.isOk (ev_body rfl ?_)
      simp only [d_signed_at, seqD, raiseD, raiseVD, par3D, ex_bind, ev_ex, es_ex, ifD, retD, retND, dropD, setD, nextD, varD, conD, bin2, un1, testD, boolR, notT, andT, orT, ifE, andV, orV, notV, tupD, lstD, cbD, nilD, consD, asgD, parD, nameG, tupG, consG, nilG, setItD, augD, augItD, methD, forD, whileD, lcD, lc2D, sliceD, someD, noneD, chain3, truD, truR, orTD, andTD, notTD, joinedD, glueD, lstRg, rg1, rg2, itRg1, itRg2, itSeq, itEn, dnewKD, newK, newL, maxKD, yesT, wipeA, cmpI, add_I, sub_I, negA, ok_bind, sizeLine_eq, Nat.reduceLeDiff, eq_I, isi_tup, isi_str, isi_int, isi_boo, len_tup, qlt, qle, qgt, qge, rg_if, ev_ok, ev_bind, ev_if, ev_call, es_nx, es_rt, es_seq, es_then, es_if, List.getElem?_cons_succ, List.getElem?_cons_zero, List.set_cons_succ, List.set_cons_zero, List.length_cons, List.length_nil, List.map_cons, List.map_nil, List.replicate, List.cons_append, List.nil_append, Option.bind_some, Option.map_some, Bool.not_true, Bool.not_false, Bool.false_eq_true, if_true, if_false, decide_true, decide_false, true_and, and_true, Nat.zero_add, Nat.add_zero, Nat.reduceAdd, Nat.reduceSub, reduceIte, Nat.sub_self, Nat.succ_sub_succ_eq_sub, Nat.add_one_sub_one, addA, nat1, nat2, sl_S hl2, c_lp, c_rp, c_sp, c_co, c_lb, c_rb, c_mi, c_pl, c_0, c_un, c_m0, c_em, c_sm, c_ss, c_fi, m_lp, m_rp, m_sp, m_co, m_lb, m_rb, m_mi, m_pl, m_0, m_un, m_m0, m_em, m_sm, m_ss, eq_S, sm_cut hs, take1, e1, plain_at_E hn hl hs, e3, and_self]
end
section
variable {n : Nat} {h : Hs} {cs : List Nat} {i : Nat}
def rowC (cs : List Nat) : Nat → List Int → Nat → Out
  | 0, _, j => .parse j
  | k + 1, acc, j => if cs[j]? = some 44 then (match signed cs (j + 1) with
      | .error e => .parse e
      | .ok (z, j') => rowC cs k (acc ++ [z]) j')
    else if j < cs.length then .parse j else if acc.length ≤ 60 then .told acc else .bad .row
end
section
variable {n : Nat} {h : Hs} {cs : List Nat} {i : Nat}
def rowB (cs : List Nat) (k : Nat) (acc : List Int) (i : Nat) : Out := match signed cs i with
  | .error e => .parse e
  | .ok (z, j) => rowC cs k (acc ++ [z]) j
end
section
variable {n : Nat} {h : Hs} {cs : List Nat} {i : Nat}
def rowR (cs : List Nat) : Out := rowB cs (cs.length + 1) [] 0
end
section
variable {n : Nat} {h : Hs} {cs : List Nat} {i : Nat}
theorem snoc_int (acc : List Int) (z : Int) : acc.map A.int ++ [A.int z] = (acc ++ [z]).map A.int := by simp
end
section
variable {n : Nat} {h : Hs} {cs : List Nat} {i : Nat}
theorem read_row_E {X : Unit} (hn : 5000 ≤ n) (hl : cs.length ≤ 3000) (hs : sm cs = true) :
    Ev (fun x h' => (rowR cs).X x ∧ Gm none h h') (f_read_row n [.str (S cs)] h) fun a h' => (rowR cs).V a ∧ Gm none h h' := by
  have hl2 : cs.length ≤ 16777216 := by omega
  have s0 : f_signed_at n [.str (S cs), .int 0] h = match signed cs 0 with
    | .error e => .ex (pE e) h
    | .ok (z, j) => .ok (.tup [.int z, .int (j : Int)]) h := signed_at_E (i := 0) hn hl hs
  refine ev_body rfl ?_
  unfold d_read_row
  refine step_seq (fun s h' => s = [some (.str (S cs)), none, none, none] ∧ h' = h) ?_ ?_
  · simp only [seqD, raiseD, raiseVD, par3D, ex_bind, ev_ex, es_ex, ifD, retD, retND, dropD, setD, nextD, varD, conD, bin2, un1, testD, boolR, notT, andT, orT, ifE, andV, orV, notV, tupD, lstD, cbD, nilD, consD, asgD, parD, nameG, tupG, consG, nilG, setItD, augD, augItD, methD, forD, whileD, lcD, lc2D, sliceD, someD, noneD, chain3, truD, truR, orTD, andTD, notTD, joinedD, glueD, lstRg, rg1, rg2, itRg1, itRg2, itSeq, itEn, dnewKD, newK, newL, maxKD, yesT, wipeA, cmpI, add_I, sub_I, negA, ok_bind, sizeLine_eq, Nat.reduceLeDiff, eq_I, isi_tup, isi_str, isi_int, isi_boo, len_tup, qlt, qle, qgt, qge, rg_if, ev_ok, ev_bind, ev_if, ev_call, es_nx, es_rt, es_seq, es_then, es_if, List.getElem?_cons_succ, List.getElem?_cons_zero, List.set_cons_succ, List.set_cons_zero, List.length_cons, List.length_nil, List.map_cons, List.map_nil, List.replicate, List.cons_append, List.nil_append, Option.bind_some, Option.map_some, Bool.not_true, Bool.not_false, Bool.false_eq_true, if_true, if_false, decide_true, decide_false, true_and, and_true, Nat.zero_add, Nat.add_zero, Nat.reduceAdd, Nat.reduceSub, reduceIte, Nat.sub_self, Nat.succ_sub_succ_eq_sub, Nat.add_one_sub_one, require_text_ok (show (S cs).length ≤ 3000 by rw [S_len]; exact hl), and_self]
  rintro s h' ⟨rfl, rfl⟩
  cases e0 : signed cs 0 with
  | error e =>
    have er : rowR cs = .parse e := by unfold rowR rowB; rw [e0]
    rw [e0] at s0
    unfold seqD
    rw [es_seq]
    simp only [seqD, raiseD, raiseVD, par3D, ex_bind, ev_ex, es_ex, ifD, retD, retND, dropD, setD, nextD, varD, conD, bin2, un1, testD, boolR, notT, andT, orT, ifE, andV, orV, notV, tupD, lstD, cbD, nilD, consD, asgD, parD, nameG, tupG, consG, nilG, setItD, augD, augItD, methD, forD, whileD, lcD, lc2D, sliceD, someD, noneD, chain3, truD, truR, orTD, andTD, notTD, joinedD, glueD, lstRg, rg1, rg2, itRg1, itRg2, itSeq, itEn, dnewKD, newK, newL, maxKD, yesT, wipeA, cmpI, add_I, sub_I, negA, ok_bind, sizeLine_eq, Nat.reduceLeDiff, eq_I, isi_tup, isi_str, isi_int, isi_boo, len_tup, qlt, qle, qgt, qge, rg_if, ev_ok, ev_bind, ev_if, ev_call, es_nx, es_rt, es_seq, es_then, es_if, List.getElem?_cons_succ, List.getElem?_cons_zero, List.set_cons_succ, List.set_cons_zero, List.length_cons, List.length_nil, List.map_cons, List.map_nil, List.replicate, List.cons_append, List.nil_append, Option.bind_some, Option.map_some, Bool.not_true, Bool.not_false, Bool.false_eq_true, if_true, if_false, decide_true, decide_false, true_and, and_true, Nat.zero_add, Nat.add_zero, Nat.reduceAdd, Nat.reduceSub, reduceIte, Nat.sub_self, Nat.succ_sub_succ_eq_sub, Nat.add_one_sub_one, s0]
    rw [er]
    exact ⟨rfl, Gm.refl⟩
  | ok p =>
    obtain ⟨z, j⟩ := p
    have er : rowR cs = rowC cs (cs.length + 1) [z] j := by unfold rowR rowB; rw [e0]; rfl
    rw [e0] at s0
    have hj := signed_in e0
    refine step_seq (fun s h2 => s = [some (.str (S cs)), some (.int z), some (.int (j : Int)), none] ∧ h2 = h') ?_ ?_
    · simp only [seqD, raiseD, raiseVD, par3D, ex_bind, ev_ex, es_ex, ifD, retD, retND, dropD, setD, nextD, varD, conD, bin2, un1, testD, boolR, notT, andT, orT, ifE, andV, orV, notV, tupD, lstD, cbD, nilD, consD, asgD, parD, nameG, tupG, consG, nilG, setItD, augD, augItD, methD, forD, whileD, lcD, lc2D, sliceD, someD, noneD, chain3, truD, truR, orTD, andTD, notTD, joinedD, glueD, lstRg, rg1, rg2, itRg1, itRg2, itSeq, itEn, dnewKD, newK, newL, maxKD, yesT, wipeA, cmpI, add_I, sub_I, negA, ok_bind, sizeLine_eq, Nat.reduceLeDiff, eq_I, isi_tup, isi_str, isi_int, isi_boo, len_tup, qlt, qle, qgt, qge, rg_if, ev_ok, ev_bind, ev_if, ev_call, es_nx, es_rt, es_seq, es_then, es_if, List.getElem?_cons_succ, List.getElem?_cons_zero, List.set_cons_succ, List.set_cons_zero, List.length_cons, List.length_nil, List.map_cons, List.map_nil, List.replicate, List.cons_append, List.nil_append, Option.bind_some, Option.map_some, Bool.not_true, Bool.not_false, Bool.false_eq_true, if_true, if_false, decide_true, decide_false, true_and, and_true, Nat.zero_add, Nat.add_zero, Nat.reduceAdd, Nat.reduceSub, reduceIte, Nat.sub_self, Nat.succ_sub_succ_eq_sub, Nat.add_one_sub_one, s0, and_self]
    rintro s h2 ⟨rfl, rfl⟩
    refine step_seq (fun s h3 => s = [some (.str (S cs)), some (.int z), some (.int (j : Int)), some (.ref h2.length)] ∧ h3 = h2 ++ [.lst [.int z]]) ?_ ?_
    · simp only [seqD, raiseD, raiseVD, par3D, ex_bind, ev_ex, es_ex, ifD, retD, retND, dropD, setD, nextD, varD, conD, bin2, un1, testD, boolR, notT, andT, orT, ifE, andV, orV, notV, tupD, lstD, cbD, nilD, consD, asgD, parD, nameG, tupG, consG, nilG, setItD, augD, augItD, methD, forD, whileD, lcD, lc2D, sliceD, someD, noneD, chain3, truD, truR, orTD, andTD, notTD, joinedD, glueD, lstRg, rg1, rg2, itRg1, itRg2, itSeq, itEn, dnewKD, newK, newL, maxKD, yesT, wipeA, cmpI, add_I, sub_I, negA, ok_bind, sizeLine_eq, Nat.reduceLeDiff, eq_I, isi_tup, isi_str, isi_int, isi_boo, len_tup, qlt, qle, qgt, qge, rg_if, ev_ok, ev_bind, ev_if, ev_call, es_nx, es_rt, es_seq, es_then, es_if, List.getElem?_cons_succ, List.getElem?_cons_zero, List.set_cons_succ, List.set_cons_zero, List.length_cons, List.length_nil, List.map_cons, List.map_nil, List.replicate, List.cons_append, List.nil_append, Option.bind_some, Option.map_some, Bool.not_true, Bool.not_false, Bool.false_eq_true, if_true, if_false, decide_true, decide_false, true_and, and_true, Nat.zero_add, Nat.add_zero, Nat.reduceAdd, Nat.reduceSub, reduceIte, Nat.sub_self, Nat.succ_sub_succ_eq_sub, Nat.add_one_sub_one, and_self]
    rintro s h3 ⟨rfl, rfl⟩
    refine step_seq (fun s h4 => ∃ (acc : List Int) (j : Nat) (a : Option A), s = [some (.str (S cs)), a, some (.int (j : Int)), some (.ref h2.length)] ∧ acc.length ≤ j ∧ j ≤ cs.length ∧ Gm none h2 h4 ∧ h4[h2.length]? = some (.lst (acc.map A.int)) ∧ rowR cs = if j < cs.length then .parse j else if acc.length ≤ 60 then .told acc else .bad .row) ?_ ?_
    · refine while_m (fun m s h4 => ∃ (acc : List Int) (j : Nat) (a : Option A), s = [some (.str (S cs)), a, some (.int (j : Int)), some (.ref h2.length)] ∧ acc.length ≤ j ∧ j ≤ cs.length ∧ cs.length < m + j ∧ Gm none h2 h4 ∧ h4[h2.length]? = some (.lst (acc.map A.int)) ∧ rowR cs = rowC cs m acc j) ?_ n (cs.length + 1) _ _ (by omega)
        ⟨[z], j, _, rfl, by simp; omega, hj.2, by omega, Gm.refl.app, get_app, er⟩
      rintro m s h4 ⟨acc, j, a, rfl, ha, hj2, hm, gm, gp, er⟩
      obtain ⟨m, rfl⟩ : ∃ k, m = k + 1 := ⟨m - 1, by omega⟩
      unfold rowC at er
      by_cases ec : cs[j]? = some 44
      · rw [if_pos ec] at er
        simp only [seqD, raiseD, raiseVD, par3D, ex_bind, ev_ex, es_ex, ifD, retD, retND, dropD, setD, nextD, varD, conD, bin2, un1, testD, boolR, notT, andT, orT, ifE, andV, orV, notV, tupD, lstD, cbD, nilD, consD, asgD, parD, nameG, tupG, consG, nilG, setItD, augD, augItD, methD, forD, whileD, lcD, lc2D, sliceD, someD, noneD, chain3, truD, truR, orTD, andTD, notTD, joinedD, glueD, lstRg, rg1, rg2, itRg1, itRg2, itSeq, itEn, dnewKD, newK, newL, maxKD, yesT, wipeA, cmpI, add_I, sub_I, negA, ok_bind, sizeLine_eq, Nat.reduceLeDiff, eq_I, isi_tup, isi_str, isi_int, isi_boo, len_tup, qlt, qle, qgt, qge, rg_if, ev_ok, ev_bind, ev_if, ev_call, es_nx, es_rt, es_seq, es_then, es_if, List.getElem?_cons_succ, List.getElem?_cons_zero, List.set_cons_succ, List.set_cons_zero, List.length_cons, List.length_nil, List.map_cons, List.map_nil, List.replicate, List.cons_append, List.nil_append, Option.bind_some, Option.map_some, Bool.not_true, Bool.not_false, Bool.false_eq_true, if_true, if_false, decide_true, decide_false, true_and, and_true, Nat.zero_add, Nat.add_zero, Nat.reduceAdd, Nat.reduceSub, reduceIte, Nat.sub_self, Nat.succ_sub_succ_eq_sub, Nat.add_one_sub_one, addA, nat1, sl_S hl2, c_lp, c_rp, c_sp, c_co, c_lb, c_rb, c_mi, c_pl, c_0, c_un, c_m0, c_em, c_sm, c_ss, c_fi, m_lp, m_rp, m_sp, m_co, m_lb, m_rb, m_mi, m_pl, m_0, m_un, m_m0, m_em, m_sm, m_ss, eq_S, sm_cut hs, take1, ec]
        refine ⟨m, by omega, ?_⟩
        simp only [signed_at_E hn hl hs]
        cases e1 : signed cs (j + 1) with
        | error e =>
          rw [e1] at er
          simp only [seqD, raiseD, raiseVD, par3D, ex_bind, ev_ex, es_ex, ifD, retD, retND, dropD, setD, nextD, varD, conD, bin2, un1, testD, boolR, notT, andT, orT, ifE, andV, orV, notV, tupD, lstD, cbD, nilD, consD, asgD, parD, nameG, tupG, consG, nilG, setItD, augD, augItD, methD, forD, whileD, lcD, lc2D, sliceD, someD, noneD, chain3, truD, truR, orTD, andTD, notTD, joinedD, glueD, lstRg, rg1, rg2, itRg1, itRg2, itSeq, itEn, dnewKD, newK, newL, maxKD, yesT, wipeA, cmpI, add_I, sub_I, negA, ok_bind, sizeLine_eq, Nat.reduceLeDiff, eq_I, isi_tup, isi_str, isi_int, isi_boo, len_tup, qlt, qle, qgt, qge, rg_if, ev_ok, ev_bind, ev_if, ev_call, es_nx, es_rt, es_seq, es_then, es_if, List.getElem?_cons_succ, List.getElem?_cons_zero, List.set_cons_succ, List.set_cons_zero, List.length_cons, List.length_nil, List.map_cons, List.map_nil, List.replicate, List.cons_append, List.nil_append, Option.bind_some, Option.map_some, Bool.not_true, Bool.not_false, Bool.false_eq_true, if_true, if_false, decide_true, decide_false, true_and, and_true, Nat.zero_add, Nat.add_zero, Nat.reduceAdd, Nat.reduceSub, reduceIte, Nat.sub_self, Nat.succ_sub_succ_eq_sub, Nat.add_one_sub_one]
          rw [er]
          exact ⟨rfl, gm⟩
        | ok p =>
          obtain ⟨z', j'⟩ := p
          rw [e1] at er
          have hj' := signed_in e1
          have hlen : (acc.map A.int).length < 16777216 := by rw [List.length_map]; omega
          simp only [seqD, raiseD, raiseVD, par3D, ex_bind, ev_ex, es_ex, ifD, retD, retND, dropD, setD, nextD, varD, conD, bin2, un1, testD, boolR, notT, andT, orT, ifE, andV, orV, notV, tupD, lstD, cbD, nilD, consD, asgD, parD, nameG, tupG, consG, nilG, setItD, augD, augItD, methD, forD, whileD, lcD, lc2D, sliceD, someD, noneD, chain3, truD, truR, orTD, andTD, notTD, joinedD, glueD, lstRg, rg1, rg2, itRg1, itRg2, itSeq, itEn, dnewKD, newK, newL, maxKD, yesT, wipeA, cmpI, add_I, sub_I, negA, ok_bind, sizeLine_eq, Nat.reduceLeDiff, eq_I, isi_tup, isi_str, isi_int, isi_boo, len_tup, qlt, qle, qgt, qge, rg_if, ev_ok, ev_bind, ev_if, ev_call, es_nx, es_rt, es_seq, es_then, es_if, List.getElem?_cons_succ, List.getElem?_cons_zero, List.set_cons_succ, List.set_cons_zero, List.length_cons, List.length_nil, List.map_cons, List.map_nil, List.replicate, List.cons_append, List.nil_append, Option.bind_some, Option.map_some, Bool.not_true, Bool.not_false, Bool.false_eq_true, if_true, if_false, decide_true, decide_false, true_and, and_true, Nat.zero_add, Nat.add_zero, Nat.reduceAdd, Nat.reduceSub, reduceIte, Nat.sub_self, Nat.succ_sub_succ_eq_sub, Nat.add_one_sub_one, tyA_ref gp, app_ref gp hlen, snoc_int]
          exact ⟨acc ++ [z'], j', _, rfl, by simp; omega, hj'.2, by omega, gm.set (.inl (Nat.le_refl _)), get_set gp, er⟩
      · rw [if_neg ec] at er
        simp only [seqD, raiseD, raiseVD, par3D, ex_bind, ev_ex, es_ex, ifD, retD, retND, dropD, setD, nextD, varD, conD, bin2, un1, testD, boolR, notT, andT, orT, ifE, andV, orV, notV, tupD, lstD, cbD, nilD, consD, asgD, parD, nameG, tupG, consG, nilG, setItD, augD, augItD, methD, forD, whileD, lcD, lc2D, sliceD, someD, noneD, chain3, truD, truR, orTD, andTD, notTD, joinedD, glueD, lstRg, rg1, rg2, itRg1, itRg2, itSeq, itEn, dnewKD, newK, newL, maxKD, yesT, wipeA, cmpI, add_I, sub_I, negA, ok_bind, sizeLine_eq, Nat.reduceLeDiff, eq_I, isi_tup, isi_str, isi_int, isi_boo, len_tup, qlt, qle, qgt, qge, rg_if, ev_ok, ev_bind, ev_if, ev_call, es_nx, es_rt, es_seq, es_then, es_if, List.getElem?_cons_succ, List.getElem?_cons_zero, List.set_cons_succ, List.set_cons_zero, List.length_cons, List.length_nil, List.map_cons, List.map_nil, List.replicate, List.cons_append, List.nil_append, Option.bind_some, Option.map_some, Bool.not_true, Bool.not_false, Bool.false_eq_true, if_true, if_false, decide_true, decide_false, true_and, and_true, Nat.zero_add, Nat.add_zero, Nat.reduceAdd, Nat.reduceSub, reduceIte, Nat.sub_self, Nat.succ_sub_succ_eq_sub, Nat.add_one_sub_one, addA, nat1, sl_S hl2, c_lp, c_rp, c_sp, c_co, c_lb, c_rb, c_mi, c_pl, c_0, c_un, c_m0, c_em, c_sm, c_ss, c_fi, m_lp, m_rp, m_sp, m_co, m_lb, m_rb, m_mi, m_pl, m_0, m_un, m_m0, m_em, m_sm, m_ss, eq_S, sm_cut hs, take1, ec]
        exact ⟨acc, j, a, rfl, ha, hj2, gm, gp, er⟩
    rintro s h4 ⟨acc, j, a, rfl, ha, hj2, gm, gp, er⟩
    by_cases hlt : j < cs.length
    · rw [if_pos hlt] at er
      simp only [seqD, raiseD, raiseVD, par3D, ex_bind, ev_ex, es_ex, ifD, retD, retND, dropD, setD, nextD, varD, conD, bin2, un1, testD, boolR, notT, andT, orT, ifE, andV, orV, notV, tupD, lstD, cbD, nilD, consD, asgD, parD, nameG, tupG, consG, nilG, setItD, augD, augItD, methD, forD, whileD, lcD, lc2D, sliceD, someD, noneD, chain3, truD, truR, orTD, andTD, notTD, joinedD, glueD, lstRg, rg1, rg2, itRg1, itRg2, itSeq, itEn, dnewKD, newK, newL, maxKD, yesT, wipeA, cmpI, add_I, sub_I, negA, ok_bind, sizeLine_eq, Nat.reduceLeDiff, eq_I, isi_tup, isi_str, isi_int, isi_boo, len_tup, qlt, qle, qgt, qge, rg_if, ev_ok, ev_bind, ev_if, ev_call, es_nx, es_rt, es_seq, es_then, es_if, List.getElem?_cons_succ, List.getElem?_cons_zero, List.set_cons_succ, List.set_cons_zero, List.length_cons, List.length_nil, List.map_cons, List.map_nil, List.replicate, List.cons_append, List.nil_append, Option.bind_some, Option.map_some, Bool.not_true, Bool.not_false, Bool.false_eq_true, if_true, if_false, decide_true, decide_false, true_and, and_true, Nat.zero_add, Nat.add_zero, Nat.reduceAdd, Nat.reduceSub, reduceIte, Nat.sub_self, Nat.succ_sub_succ_eq_sub, Nat.add_one_sub_one, require_end_E hl, hlt]
      rw [er]
      exact ⟨rfl, gm⟩
    · rw [if_neg hlt] at er
      by_cases h60 : acc.length ≤ 60
      · rw [if_pos h60] at er
        have n60 : ¬ ((60 : Int) < (acc.length : Int)) := by omega
        simp only [seqD, raiseD, raiseVD, par3D, ex_bind, ev_ex, es_ex, ifD, retD, retND, dropD, setD, nextD, varD, conD, bin2, un1, testD, boolR, notT, andT, orT, ifE, andV, orV, notV, tupD, lstD, cbD, nilD, consD, asgD, parD, nameG, tupG, consG, nilG, setItD, augD, augItD, methD, forD, whileD, lcD, lc2D, sliceD, someD, noneD, chain3, truD, truR, orTD, andTD, notTD, joinedD, glueD, lstRg, rg1, rg2, itRg1, itRg2, itSeq, itEn, dnewKD, newK, newL, maxKD, yesT, wipeA, cmpI, add_I, sub_I, negA, ok_bind, sizeLine_eq, Nat.reduceLeDiff, eq_I, isi_tup, isi_str, isi_int, isi_boo, len_tup, qlt, qle, qgt, qge, rg_if, ev_ok, ev_bind, ev_if, ev_call, es_nx, es_rt, es_seq, es_then, es_if, List.getElem?_cons_succ, List.getElem?_cons_zero, List.set_cons_succ, List.set_cons_zero, List.length_cons, List.length_nil, List.map_cons, List.map_nil, List.replicate, List.cons_append, List.nil_append, Option.bind_some, Option.map_some, Bool.not_true, Bool.not_false, Bool.false_eq_true, if_true, if_false, decide_true, decide_false, true_and, and_true, Nat.zero_add, Nat.add_zero, Nat.reduceAdd, Nat.reduceSub, reduceIte, Nat.sub_self, Nat.succ_sub_succ_eq_sub, Nat.add_one_sub_one, require_end_E hl, hlt, len_ref gp, List.length_map, n60, tuple_ref gp]
        rw [er]
        exact ⟨rfl, gm⟩
      · rw [if_neg h60] at er
        have n60 : ((60 : Int) < (acc.length : Int)) := by omega
        simp only [seqD, raiseD, raiseVD, par3D, ex_bind, ev_ex, es_ex, ifD, retD, retND, dropD, setD, nextD, varD, conD, bin2, un1, testD, boolR, notT, andT, orT, ifE, andV, orV, notV, tupD, lstD, cbD, nilD, consD, asgD, parD, nameG, tupG, consG, nilG, setItD, augD, augItD, methD, forD, whileD, lcD, lc2D, sliceD, someD, noneD, chain3, truD, truR, orTD, andTD, notTD, joinedD, glueD, lstRg, rg1, rg2, itRg1, itRg2, itSeq, itEn, dnewKD, newK, newL, maxKD, yesT, wipeA, cmpI, add_I, sub_I, negA, ok_bind, sizeLine_eq, Nat.reduceLeDiff, eq_I, isi_tup, isi_str, isi_int, isi_boo, len_tup, qlt, qle, qgt, qge, rg_if, ev_ok, ev_bind, ev_if, ev_call, es_nx, es_rt, es_seq, es_then, es_if, List.getElem?_cons_succ, List.getElem?_cons_zero, List.set_cons_succ, List.set_cons_zero, List.length_cons, List.length_nil, List.map_cons, List.map_nil, List.replicate, List.cons_append, List.nil_append, Option.bind_some, Option.map_some, Bool.not_true, Bool.not_false, Bool.false_eq_true, if_true, if_false, decide_true, decide_false, true_and, and_true, Nat.zero_add, Nat.add_zero, Nat.reduceAdd, Nat.reduceSub, reduceIte, Nat.sub_self, Nat.succ_sub_succ_eq_sub, Nat.add_one_sub_one, require_end_E hl, hlt, len_ref gp, List.length_map, n60]
        rw [er]
        exact ⟨rfl, gm⟩
end
section
variable {n : Nat} {h : Hs} {cs : List Nat} {i : Nat}
theorem nat_0 (k : Nat) : ((k : Int) = 0) = (k = 0) := propext (by omega)
end
section
variable {n : Nat} {h : Hs} {cs : List Nat} {i : Nat}
theorem eq_Sc {neg : Bool} {c d : Nat} {h : Hs} (hc : sm [c] = true) (hd : sm [d] = true) : eqA neg (.str (S [c])) (.str (S [d])) h = .ok (.bl (if neg then !decide (c = d) else decide (c = d))) h := by
  rw [eq_S hc hd]
  have e : ([c] = [d]) = (c = d) := by simp
  simp only [e]
end
def termP (cs : List Nat) (v j : Nat) : Except Nat ((Nat × Nat) × Nat) :=
  if cs[j]? = some 91 then (if sz cs (j + 1) = 0 then .error (j + 1) else if cs[j + 1 + sz cs (j + 1)]? = some 93 then .ok ((v, vl cs (j + 1)), j + 1 + sz cs (j + 1) + 1) else .error (j + 1 + sz cs (j + 1)))
  else .error j
def term (cs : List Nat) (i : Nat) : Except Nat ((Nat × Nat) × Nat) :=
  if cs[i]? = some 91 then termP cs 1 i else if sz cs i = 0 then .error i else termP cs (vl cs i) (i + sz cs i)
theorem termP_in {cs : List Nat} {v j v' p k : Nat} (e : termP cs v j = .ok ((v', p), k)) : v' = v ∧ j < k ∧ k ≤ cs.length := by
  unfold termP at e
  split at e
  · split at e
    · cases e
    · split at e
      · rename_i h
        cases e
        have := sgn_len h
        exact ⟨rfl, by omega, by omega⟩
      · cases e
  · cases e
theorem term_in {cs : List Nat} {i v p j : Nat} (e : term cs i = .ok ((v, p), j)) : v < 1000000000000000000000000000000000000000000000000000000000000 ∧ i < j ∧ j ≤ cs.length := by
  unfold term at e
  split at e
  · obtain ⟨h1, h2, h3⟩ := termP_in e
    subst h1
    exact ⟨by decide, h2, h3⟩
  · split at e
    · cases e
    · rename_i h
      obtain ⟨h1, h2, h3⟩ := termP_in e
      subst h1
      exact ⟨vl_lt (by omega), by omega, h3⟩
section
variable {n : Nat} {h : Hs} {cs : List Nat} {i : Nat}
theorem term_at_E (hn : 5000 ≤ n) (hl : cs.length ≤ 3000) (hs : sm cs = true) : f_term_at n [.str (S cs), .int (i : Int)] h = match term cs i with
    | .error e => .ex (pE e) h
    | .ok ((v, p), j) => .ok (.tup [.tup [.int (v : Int), .int (p : Int)], .int (j : Int)]) h := by
  have hl2 : cs.length ≤ 16777216 := by omega
  -- from the bracket on
  have rest : ∀ (v j : Nat) (c d : Option A) (T : Tl), (∀ e, termP cs v j = .error e → ∀ s, T.ex (pE e) s h) → (∀ w p k, termP cs v j = .ok ((w, p), k) → T.rt (.tup [.tup [.int (w : Int), .int (p : Int)], .int (k : Int)]) h) →
      EvS ((seqD (asgD (callD 2 f_plain_at (consD (varD 0) (consD (callD 3 f_require_sign (consD (varD 0) (consD (varD 1) (consD (conD (.str "[")) nilD)))) nilD))) (tupG 2 (consG (nameG 3) (consG (nameG 1) nilG))))
  (retD (tupD (consD (tupD (consD (varD 2) (consD (varD 3) nilD))) (consD (callD 3 f_require_sign (consD (varD 0) (consD (varD 1) (consD (conD (.str "]")) nilD)))) nilD))))) n [some (.str (S cs)), some (.int (j : Int)), some (.int (v : Int)), d] h) T := by
    intro v j c d T h1 h2
    unfold termP at h1 h2
    by_cases e1 : cs[j]? = some 91
    · rw [if_pos e1] at h1 h2
      by_cases e2 : sz cs (j + 1) = 0
      · rw [if_pos e2] at h1 h2
        simp only [seqD, raiseD, raiseVD, par3D, ex_bind, ev_ex, es_ex, ifD, retD, retND, dropD, setD, nextD, varD, conD, bin2, un1, testD, boolR, notT, andT, orT, ifE, andV, orV, notV, tupD, lstD, cbD, nilD, consD, asgD, parD, nameG, tupG, consG, nilG, setItD, augD, augItD, methD, forD, whileD, lcD, lc2D, sliceD, someD, noneD, chain3, truD, truR, orTD, andTD, notTD, joinedD, glueD, lstRg, rg1, rg2, itRg1, itRg2, itSeq, itEn, dnewKD, newK, newL, maxKD, yesT, wipeA, cmpI, add_I, sub_I, negA, ok_bind, sizeLine_eq, Nat.reduceLeDiff, eq_I, isi_tup, isi_str, isi_int, isi_boo, len_tup, qlt, qle, qgt, qge, rg_if, ev_ok, ev_bind, ev_if, ev_call, es_nx, es_rt, es_seq, es_then, es_if, List.getElem?_cons_succ, List.getElem?_cons_zero, List.set_cons_succ, List.set_cons_zero, List.length_cons, List.length_nil, List.map_cons, List.map_nil, List.replicate, List.cons_append, List.nil_append, Option.bind_some, Option.map_some, Bool.not_true, Bool.not_false, Bool.false_eq_true, if_true, if_false, decide_true, decide_false, true_and, and_true, Nat.zero_add, Nat.add_zero, Nat.reduceAdd, Nat.reduceSub, reduceIte, Nat.sub_self, Nat.succ_sub_succ_eq_sub, Nat.add_one_sub_one, c_lp, c_rp, c_sp, c_co, c_lb, c_rb, c_mi, c_pl, c_0, c_un, c_m0, c_em, c_sm, c_ss, c_fi, m_lp, m_rp, m_sp, m_co, m_lb, m_rb, m_mi, m_pl, m_0, m_un, m_m0, m_em, m_sm, m_ss, require_sign_E hl hs, e1, plain_at_E hn hl hs, e2]
        exact h1 _ rfl _
      · rw [if_neg e2] at h1 h2
        by_cases e3 : cs[j + 1 + sz cs (j + 1)]? = some 93
        · rw [if_pos e3] at h1 h2
          simp only [seqD, raiseD, raiseVD, par3D, ex_bind, ev_ex, es_ex, ifD, retD, retND, dropD, setD, nextD, varD, conD, bin2, un1, testD, boolR, notT, andT, orT, ifE, andV, orV, notV, tupD, lstD, cbD, nilD, consD, asgD, parD, nameG, tupG, consG, nilG, setItD, augD, augItD, methD, forD, whileD, lcD, lc2D, sliceD, someD, noneD, chain3, truD, truR, orTD, andTD, notTD, joinedD, glueD, lstRg, rg1, rg2, itRg1, itRg2, itSeq, itEn, dnewKD, newK, newL, maxKD, yesT, wipeA, cmpI, add_I, sub_I, negA, ok_bind, sizeLine_eq, Nat.reduceLeDiff, eq_I, isi_tup, isi_str, isi_int, isi_boo, len_tup, qlt, qle, qgt, qge, rg_if, ev_ok, ev_bind, ev_if, ev_call, es_nx, es_rt, es_seq, es_then, es_if, List.getElem?_cons_succ, List.getElem?_cons_zero, List.set_cons_succ, List.set_cons_zero, List.length_cons, List.length_nil, List.map_cons, List.map_nil, List.replicate, List.cons_append, List.nil_append, Option.bind_some, Option.map_some, Bool.not_true, Bool.not_false, Bool.false_eq_true, if_true, if_false, decide_true, decide_false, true_and, and_true, Nat.zero_add, Nat.add_zero, Nat.reduceAdd, Nat.reduceSub, reduceIte, Nat.sub_self, Nat.succ_sub_succ_eq_sub, Nat.add_one_sub_one, c_lp, c_rp, c_sp, c_co, c_lb, c_rb, c_mi, c_pl, c_0, c_un, c_m0, c_em, c_sm, c_ss, c_fi, m_lp, m_rp, m_sp, m_co, m_lb, m_rb, m_mi, m_pl, m_0, m_un, m_m0, m_em, m_sm, m_ss, require_sign_E hl hs, e1, plain_at_E hn hl hs, e2, e3]
          exact h2 _ _ _ rfl
        · rw [if_neg e3] at h1 h2
          simp only [seqD, raiseD, raiseVD, par3D, ex_bind, ev_ex, es_ex, ifD, retD, retND, dropD, setD, nextD, varD, conD, bin2, un1, testD, boolR, notT, andT, orT, ifE, andV, orV, notV, tupD, lstD, cbD, nilD, consD, asgD, parD, nameG, tupG, consG, nilG, setItD, augD, augItD, methD, forD, whileD, lcD, lc2D, sliceD, someD, noneD, chain3, truD, truR, orTD, andTD, notTD, joinedD, glueD, lstRg, rg1, rg2, itRg1, itRg2, itSeq, itEn, dnewKD, newK, newL, maxKD, yesT, wipeA, cmpI, add_I, sub_I, negA, ok_bind, sizeLine_eq, Nat.reduceLeDiff, eq_I, isi_tup, isi_str, isi_int, isi_boo, len_tup, qlt, qle, qgt, qge, rg_if, ev_ok, ev_bind, ev_if, ev_call, es_nx, es_rt, es_seq, es_then, es_if, List.getElem?_cons_succ, List.getElem?_cons_zero, List.set_cons_succ, List.set_cons_zero, List.length_cons, List.length_nil, List.map_cons, List.map_nil, List.replicate, List.cons_append, List.nil_append, Option.bind_some, Option.map_some, Bool.not_true, Bool.not_false, Bool.false_eq_true, if_true, if_false, decide_true, decide_false, true_and, and_true, Nat.zero_add, Nat.add_zero, Nat.reduceAdd, Nat.reduceSub, reduceIte, Nat.sub_self, Nat.succ_sub_succ_eq_sub, Nat.add_one_sub_one, c_lp, c_rp, c_sp, c_co, c_lb, c_rb, c_mi, c_pl, c_0, c_un, c_m0, c_em, c_sm, c_ss, c_fi, m_lp, m_rp, m_sp, m_co, m_lb, m_rb, m_mi, m_pl, m_0, m_un, m_m0, m_em, m_sm, m_ss, require_sign_E hl hs, e1, plain_at_E hn hl hs, e2, e3]
          exact h1 _ rfl _
    · rw [if_neg e1] at h1 h2
      simp only [seqD, raiseD, raiseVD, par3D, ex_bind, ev_ex, es_ex, ifD, retD, retND, dropD, setD, nextD, varD, conD, bin2, un1, testD, boolR, notT, andT, orT, ifE, andV, orV, notV, tupD, lstD, cbD, nilD, consD, asgD, parD, nameG, tupG, consG, nilG, setItD, augD, augItD, methD, forD, whileD, lcD, lc2D, sliceD, someD, noneD, chain3, truD, truR, orTD, andTD, notTD, joinedD, glueD, lstRg, rg1, rg2, itRg1, itRg2, itSeq, itEn, dnewKD, newK, newL, maxKD, yesT, wipeA, cmpI, add_I, sub_I, negA, ok_bind, sizeLine_eq, Nat.reduceLeDiff, eq_I, isi_tup, isi_str, isi_int, isi_boo, len_tup, qlt, qle, qgt, qge, rg_if, ev_ok, ev_bind, ev_if, ev_call, es_nx, es_rt, es_seq, es_then, es_if, List.getElem?_cons_succ, List.getElem?_cons_zero, List.set_cons_succ, List.set_cons_zero, List.length_cons, List.length_nil, List.map_cons, List.map_nil, List.replicate, List.cons_append, List.nil_append, Option.bind_some, Option.map_some, Bool.not_true, Bool.not_false, Bool.false_eq_true, if_true, if_false, decide_true, decide_false, true_and, and_true, Nat.zero_add, Nat.add_zero, Nat.reduceAdd, Nat.reduceSub, reduceIte, Nat.sub_self, Nat.succ_sub_succ_eq_sub, Nat.add_one_sub_one, c_lp, c_rp, c_sp, c_co, c_lb, c_rb, c_mi, c_pl, c_0, c_un, c_m0, c_em, c_sm, c_ss, c_fi, m_lp, m_rp, m_sp, m_co, m_lb, m_rb, m_mi, m_pl, m_0, m_un, m_m0, m_em, m_sm, m_ss, require_sign_E hl hs, e1]
      exact h1 _ rfl _
  have all : ∀ T : Tl, (∀ e, term cs i = .error e → ∀ s, T.ex (pE e) s h) → (∀ w p k, term cs i = .ok ((w, p), k) → T.rt (.tup [.tup [.int (w : Int), .int (p : Int)], .int (k : Int)]) h) →
      EvS (d_term_at n [some (.str (S cs)), some (.int (i : Int)), none, none] h) T := by
    intro T h1 h2
    unfold term at h1 h2
    unfold d_term_at
    refine step_seq (fun s h' => s = [some (.str (S cs)), some (.int (i : Int)), some (.int ((1 : Nat) : Int)), none] ∧ h' = h) ?_ ?_
    · simp only [seqD, raiseD, raiseVD, par3D, ex_bind, ev_ex, es_ex, ifD, retD, retND, dropD, setD, nextD, varD, conD, bin2, un1, testD, boolR, notT, andT, orT, ifE, andV, orV, notV, tupD, lstD, cbD, nilD, consD, asgD, parD, nameG, tupG, consG, nilG, setItD, augD, augItD, methD, forD, whileD, lcD, lc2D, sliceD, someD, noneD, chain3, truD, truR, orTD, andTD, notTD, joinedD, glueD, lstRg, rg1, rg2, itRg1, itRg2, itSeq, itEn, dnewKD, newK, newL, maxKD, yesT, wipeA, cmpI, add_I, sub_I, negA, ok_bind, sizeLine_eq, Nat.reduceLeDiff, eq_I, isi_tup, isi_str, isi_int, isi_boo, len_tup, qlt, qle, qgt, qge, rg_if, ev_ok, ev_bind, ev_if, ev_call, es_nx, es_rt, es_seq, es_then, es_if, List.getElem?_cons_succ, List.getElem?_cons_zero, List.set_cons_succ, List.set_cons_zero, List.length_cons, List.length_nil, List.map_cons, List.map_nil, List.replicate, List.cons_append, List.nil_append, Option.bind_some, Option.map_some, Bool.not_true, Bool.not_false, Bool.false_eq_true, if_true, if_false, decide_true, decide_false, true_and, and_true, Nat.zero_add, Nat.add_zero, Nat.reduceAdd, Nat.reduceSub, reduceIte, Nat.sub_self, Nat.succ_sub_succ_eq_sub, Nat.add_one_sub_one]
      all_goals first | trivial | rfl | exact ⟨rfl, rfl⟩
    rintro s h' ⟨rfl, rfl⟩
    by_cases e1 : cs[i]? = some 91
    · rw [if_pos e1] at h1 h2
      refine step_seq (fun s h2 => s = [some (.str (S cs)), some (.int (i : Int)), some (.int ((1 : Nat) : Int)), none] ∧ h2 = h') ?_ ?_
      · simp only [seqD, raiseD, raiseVD, par3D, ex_bind, ev_ex, es_ex, ifD, retD, retND, dropD, setD, nextD, varD, conD, bin2, un1, testD, boolR, notT, andT, orT, ifE, andV, orV, notV, tupD, lstD, cbD, nilD, consD, asgD, parD, nameG, tupG, consG, nilG, setItD, augD, augItD, methD, forD, whileD, lcD, lc2D, sliceD, someD, noneD, chain3, truD, truR, orTD, andTD, notTD, joinedD, glueD, lstRg, rg1, rg2, itRg1, itRg2, itSeq, itEn, dnewKD, newK, newL, maxKD, yesT, wipeA, cmpI, add_I, sub_I, negA, ok_bind, sizeLine_eq, Nat.reduceLeDiff, eq_I, isi_tup, isi_str, isi_int, isi_boo, len_tup, qlt, qle, qgt, qge, rg_if, ev_ok, ev_bind, ev_if, ev_call, es_nx, es_rt, es_seq, es_then, es_if, List.getElem?_cons_succ, List.getElem?_cons_zero, List.set_cons_succ, List.set_cons_zero, List.length_cons, List.length_nil, List.map_cons, List.map_nil, List.replicate, List.cons_append, List.nil_append, Option.bind_some, Option.map_some, Bool.not_true, Bool.not_false, Bool.false_eq_true, if_true, if_false, decide_true, decide_false, true_and, and_true, Nat.zero_add, Nat.add_zero, Nat.reduceAdd, Nat.reduceSub, reduceIte, Nat.sub_self, Nat.succ_sub_succ_eq_sub, Nat.add_one_sub_one, addA, nat1, sl_S hl2, c_lp, c_rp, c_sp, c_co, c_lb, c_rb, c_mi, c_pl, c_0, c_un, c_m0, c_em, c_sm, c_ss, c_fi, m_lp, m_rp, m_sp, m_co, m_lb, m_rb, m_mi, m_pl, m_0, m_un, m_m0, m_em, m_sm, m_ss, eq_S, sm_cut hs, take1, e1, and_self]
      rintro s h3 ⟨rfl, rfl⟩
      exact rest 1 i none _ T h1 h2
    · rw [if_neg e1] at h1 h2
      by_cases e2 : sz cs i = 0
      · rw [if_pos e2] at h1 h2
        simp only [seqD, raiseD, raiseVD, par3D, ex_bind, ev_ex, es_ex, ifD, retD, retND, dropD, setD, nextD, varD, conD, bin2, un1, testD, boolR, notT, andT, orT, ifE, andV, orV, notV, tupD, lstD, cbD, nilD, consD, asgD, parD, nameG, tupG, consG, nilG, setItD, augD, augItD, methD, forD, whileD, lcD, lc2D, sliceD, someD, noneD, chain3, truD, truR, orTD, andTD, notTD, joinedD, glueD, lstRg, rg1, rg2, itRg1, itRg2, itSeq, itEn, dnewKD, newK, newL, maxKD, yesT, wipeA, cmpI, add_I, sub_I, negA, ok_bind, sizeLine_eq, Nat.reduceLeDiff, eq_I, isi_tup, isi_str, isi_int, isi_boo, len_tup, qlt, qle, qgt, qge, rg_if, ev_ok, ev_bind, ev_if, ev_call, es_nx, es_rt, es_seq, es_then, es_if, List.getElem?_cons_succ, List.getElem?_cons_zero, List.set_cons_succ, List.set_cons_zero, List.length_cons, List.length_nil, List.map_cons, List.map_nil, List.replicate, List.cons_append, List.nil_append, Option.bind_some, Option.map_some, Bool.not_true, Bool.not_false, Bool.false_eq_true, if_true, if_false, decide_true, decide_false, true_and, and_true, Nat.zero_add, Nat.add_zero, Nat.reduceAdd, Nat.reduceSub, reduceIte, Nat.sub_self, Nat.succ_sub_succ_eq_sub, Nat.add_one_sub_one, addA, nat1, sl_S hl2, c_lp, c_rp, c_sp, c_co, c_lb, c_rb, c_mi, c_pl, c_0, c_un, c_m0, c_em, c_sm, c_ss, c_fi, m_lp, m_rp, m_sp, m_co, m_lb, m_rb, m_mi, m_pl, m_0, m_un, m_m0, m_em, m_sm, m_ss, eq_S, sm_cut hs, take1, e1, plain_at_E hn hl hs, e2]
        exact h1 _ rfl _
      · rw [if_neg e2] at h1 h2
        refine step_seq (fun s h2 => s = [some (.str (S cs)), some (.int ((i + sz cs i : Nat) : Int)), some (.int (vl cs i : Nat)), none] ∧ h2 = h') ?_ ?_
        · simp only [seqD, raiseD, raiseVD, par3D, ex_bind, ev_ex, es_ex, ifD, retD, retND, dropD, setD, nextD, varD, conD, bin2, un1, testD, boolR, notT, andT, orT, ifE, andV, orV, notV, tupD, lstD, cbD, nilD, consD, asgD, parD, nameG, tupG, consG, nilG, setItD, augD, augItD, methD, forD, whileD, lcD, lc2D, sliceD, someD, noneD, chain3, truD, truR, orTD, andTD, notTD, joinedD, glueD, lstRg, rg1, rg2, itRg1, itRg2, itSeq, itEn, dnewKD, newK, newL, maxKD, yesT, wipeA, cmpI, add_I, sub_I, negA, ok_bind, sizeLine_eq, Nat.reduceLeDiff, eq_I, isi_tup, isi_str, isi_int, isi_boo, len_tup, qlt, qle, qgt, qge, rg_if, ev_ok, ev_bind, ev_if, ev_call, es_nx, es_rt, es_seq, es_then, es_if, List.getElem?_cons_succ, List.getElem?_cons_zero, List.set_cons_succ, List.set_cons_zero, List.length_cons, List.length_nil, List.map_cons, List.map_nil, List.replicate, List.cons_append, List.nil_append, Option.bind_some, Option.map_some, Bool.not_true, Bool.not_false, Bool.false_eq_true, if_true, if_false, decide_true, decide_false, true_and, and_true, Nat.zero_add, Nat.add_zero, Nat.reduceAdd, Nat.reduceSub, reduceIte, Nat.sub_self, Nat.succ_sub_succ_eq_sub, Nat.add_one_sub_one, addA, nat1, sl_S hl2, c_lp, c_rp, c_sp, c_co, c_lb, c_rb, c_mi, c_pl, c_0, c_un, c_m0, c_em, c_sm, c_ss, c_fi, m_lp, m_rp, m_sp, m_co, m_lb, m_rb, m_mi, m_pl, m_0, m_un, m_m0, m_em, m_sm, m_ss, eq_S, sm_cut hs, take1, e1, plain_at_E hn hl hs, e2, and_self]
        rintro s h3 ⟨rfl, rfl⟩
        exact rest _ _ none _ T h1 h2
  cases et : term cs i with
  | error e => exact Ev.isEx (ev_body rfl (all _ (fun e' z s => by rw [et] at z; cases z; exact ⟨rfl, rfl⟩) (fun w p k z => by rw [et] at z; cases z)))
  | ok q =>
    obtain ⟨⟨v, p⟩, j⟩ := q
    exact Ev.isOk (ev_body rfl (all _ (fun e' z s => by rw [et] at z; cases z) (fun w p k z => by rw [et] at z; cases z; exact ⟨rfl, rfl⟩)))
end
def sgI (cs : List Nat) (i : Nat) : Int := if cs[i]? = some 43 then 1 else -1
def termsC (cs : List Nat) : Nat → List (Int × Nat) → Nat → Except Nat (List (Int × Nat))
  | 0, _, j => .error j
  | k + 1, acc, j => if j < cs.length then (if cs[j]? = some 32 then (if cs[j + 1]? = some 43 ∨ cs[j + 1]? = some 45 then (if cs[j + 2]? = some 32 then (match term cs (j + 3) with
      | .error e => .error e
      | .ok ((v, p), j') => termsC cs k (acc ++ [(sgI cs (j + 1) * v, p)]) j') else .error (j + 2)) else .error (j + 1)) else .error j) else .ok acc
def termsB (cs : List Nat) (k : Nat) (sg : Int) (acc : List (Int × Nat)) (i : Nat) : Except Nat (List (Int × Nat)) := match term cs i with
  | .error e => .error e
  | .ok ((v, p), j) => termsC cs k (acc ++ [(sg * v, p)]) j
def termsR (cs : List Nat) : Except Nat (List (Int × Nat)) := if cs.take 2 = [45, 48] then .error 1 else if cs.take 1 = [45] then termsB cs (cs.length + 1) (-1) [] 1 else termsB cs (cs.length + 1) 1 [] 0
def pairA (p : Int × Nat) : A := .tup [.int p.1, .int (p.2 : Int)]
theorem snoc_pair (acc : List (Int × Nat)) (q : Int × Nat) : acc.map pairA ++ [pairA q] = (acc ++ [q]).map pairA := by simp
theorem sgI_or (cs : List Nat) (i : Nat) : sgI cs i = 1 ∨ sgI cs i = -1 := by unfold sgI; split; exact .inl rfl; exact .inr rfl
theorem mulsg {s : Int} {m : Nat} {h : Hs} (hs : s = 1 ∨ s = -1) (hm : m < 1000000000000000000000000000000000000000000000000000000000000) : mulA (.int s) (.int (m : Int)) h = .ok (.int (s * m)) h := by
  refine mul_I ?_
  have q : (m : Int).natAbs.log2 < 1920 := Good.log (z := (m : Int)) ⟨by omega, by omega⟩
  have q2 : s.natAbs.log2 = 0 := by
    rcases hs with rfl | rfl <;> rfl
  omega
theorem in_pm {l : List Nat} {h : Hs} : inA true (.str (S l)) (.tup [.str (S [43]), .str (S [45])]) h = .ok (.bl (!(decide (l = [43]) || decide (l = [45])))) h := by
  unfold inA inSeq
  rw [if_neg (by simp [isDict])]
  have e : ∀ c : List Nat, (S c == S l) = decide (l = c) := fun c => by
    by_cases z : l = c
    · subst z; simp
    · rw [decide_eq_false z]; exact beq_eq_false_iff_ne.mpr fun y => z (S_inj y).symm
  have e2 : L2.inV (.str (S l)) [.str (S [43]), .str (S [45])] = (decide (l = [43]) || decide (l = [45])) := by
    unfold L2.inV
    rw [List.any_cons, List.any_cons, List.any_nil, Bool.or_false]
    show ((S [43] == S l) || (S [45] == S l)) = _
    rw [e, e]
  show R.ok (A.bl (!L2.inV (.str (S l)) [.str (S [43]), .str (S [45])])) h = _
  rw [e2]
section
variable {n : Nat} {h : Hs} {cs : List Nat} {i : Nat}
theorem sl_1 (hl : cs.length ≤ 16777216) : slA (.str (S cs)) none (some 1) h = .ok (.str (S (cs.take 1))) h := sl_to (k := 1) hl
end
section
variable {n : Nat} {h : Hs} {cs : List Nat} {i : Nat}
theorem sl_2 (hl : cs.length ≤ 16777216) : slA (.str (S cs)) none (some 2) h = .ok (.str (S (cs.take 2))) h := sl_to (k := 2) hl
end
section
variable {n : Nat} {h : Hs} {cs : List Nat} {i : Nat}
theorem terms_at_E (hn : 5000 ≤ n) (hl : cs.length ≤ 3000) (hs : sm cs = true) :
    Ev (fun x h' => (∃ e, termsR cs = .error e ∧ x = pE e) ∧ Gm none h h') (f_terms_at n [.str (S cs)] h) fun a h' => ∃ ts, termsR cs = .ok ts ∧ ts.length ≤ cs.length ∧ a = .ref h.length ∧ Gm none h h' ∧ h'[h.length]? = some (.lst (ts.map pairA)) := by
  have hl2 : cs.length ≤ 16777216 := by omega
  refine ev_body rfl ?_
  unfold d_terms_at
  refine step_seq (fun s h' => ∃ (sg : Int) (i : Nat), s = [some (.str (S cs)), some (.int sg), some (.int (i : Int)), none, none, none] ∧ h = h' ∧ (sg = 1 ∨ sg = -1) ∧ (cs.take 2 ≠ [45, 48] → termsR cs = termsB cs (cs.length + 1) sg [] i)) ?_ ?_
  · by_cases e1 : cs.take 1 = [45]
    · simp only [seqD, raiseD, raiseVD, par3D, ex_bind, ev_ex, es_ex, ifD, retD, retND, dropD, setD, nextD, varD, conD, bin2, un1, testD, boolR, notT, andT, orT, ifE, andV, orV, notV, tupD, lstD, cbD, nilD, consD, asgD, parD, nameG, tupG, consG, nilG, setItD, augD, augItD, methD, forD, whileD, lcD, lc2D, sliceD, someD, noneD, chain3, truD, truR, orTD, andTD, notTD, joinedD, glueD, lstRg, rg1, rg2, itRg1, itRg2, itSeq, itEn, dnewKD, newK, newL, maxKD, yesT, wipeA, cmpI, add_I, sub_I, negA, ok_bind, sizeLine_eq, Nat.reduceLeDiff, eq_I, isi_tup, isi_str, isi_int, isi_boo, len_tup, qlt, qle, qgt, qge, rg_if, ev_ok, ev_bind, ev_if, ev_call, es_nx, es_rt, es_seq, es_then, es_if, List.getElem?_cons_succ, List.getElem?_cons_zero, List.set_cons_succ, List.set_cons_zero, List.length_cons, List.length_nil, List.map_cons, List.map_nil, List.replicate, List.cons_append, List.nil_append, Option.bind_some, Option.map_some, Bool.not_true, Bool.not_false, Bool.false_eq_true, if_true, if_false, decide_true, decide_false, true_and, and_true, Nat.zero_add, Nat.add_zero, Nat.reduceAdd, Nat.reduceSub, reduceIte, Nat.sub_self, Nat.succ_sub_succ_eq_sub, Nat.add_one_sub_one, sl_1 hl2, c_lp, c_rp, c_sp, c_co, c_lb, c_rb, c_mi, c_pl, c_0, c_un, c_m0, c_em, c_sm, c_ss, c_fi, m_lp, m_rp, m_sp, m_co, m_lb, m_rb, m_mi, m_pl, m_0, m_un, m_m0, m_em, m_sm, m_ss, eq_S, sm_take hs, e1]
      exact ⟨-1, 1, rfl, .inr rfl, fun z => by unfold termsR; rw [if_neg z, if_pos e1]⟩
    · simp only [seqD, raiseD, raiseVD, par3D, ex_bind, ev_ex, es_ex, ifD, retD, retND, dropD, setD, nextD, varD, conD, bin2, un1, testD, boolR, notT, andT, orT, ifE, andV, orV, notV, tupD, lstD, cbD, nilD, consD, asgD, parD, nameG, tupG, consG, nilG, setItD, augD, augItD, methD, forD, whileD, lcD, lc2D, sliceD, someD, noneD, chain3, truD, truR, orTD, andTD, notTD, joinedD, glueD, lstRg, rg1, rg2, itRg1, itRg2, itSeq, itEn, dnewKD, newK, newL, maxKD, yesT, wipeA, cmpI, add_I, sub_I, negA, ok_bind, sizeLine_eq, Nat.reduceLeDiff, eq_I, isi_tup, isi_str, isi_int, isi_boo, len_tup, qlt, qle, qgt, qge, rg_if, ev_ok, ev_bind, ev_if, ev_call, es_nx, es_rt, es_seq, es_then, es_if, List.getElem?_cons_succ, List.getElem?_cons_zero, List.set_cons_succ, List.set_cons_zero, List.length_cons, List.length_nil, List.map_cons, List.map_nil, List.replicate, List.cons_append, List.nil_append, Option.bind_some, Option.map_some, Bool.not_true, Bool.not_false, Bool.false_eq_true, if_true, if_false, decide_true, decide_false, true_and, and_true, Nat.zero_add, Nat.add_zero, Nat.reduceAdd, Nat.reduceSub, reduceIte, Nat.sub_self, Nat.succ_sub_succ_eq_sub, Nat.add_one_sub_one, sl_1 hl2, c_lp, c_rp, c_sp, c_co, c_lb, c_rb, c_mi, c_pl, c_0, c_un, c_m0, c_em, c_sm, c_ss, c_fi, m_lp, m_rp, m_sp, m_co, m_lb, m_rb, m_mi, m_pl, m_0, m_un, m_m0, m_em, m_sm, m_ss, eq_S, sm_take hs, e1]
      exact ⟨1, 0, rfl, .inl rfl, fun z => by unfold termsR; rw [if_neg z, if_neg e1]⟩
  rintro s h' ⟨sg, i, rfl, rfl, hsg, hT⟩
  by_cases e2 : cs.take 2 = [45, 48]
  · have er : termsR cs = .error 1 := by unfold termsR; rw [if_pos e2]
    refine step_seq (fun _ _ => False) ?_ (fun _ _ z => z.elim)
    simp only [seqD, raiseD, raiseVD, par3D, ex_bind, ev_ex, es_ex, ifD, retD, retND, dropD, setD, nextD, varD, conD, bin2, un1, testD, boolR, notT, andT, orT, ifE, andV, orV, notV, tupD, lstD, cbD, nilD, consD, asgD, parD, nameG, tupG, consG, nilG, setItD, augD, augItD, methD, forD, whileD, lcD, lc2D, sliceD, someD, noneD, chain3, truD, truR, orTD, andTD, notTD, joinedD, glueD, lstRg, rg1, rg2, itRg1, itRg2, itSeq, itEn, dnewKD, newK, newL, maxKD, yesT, wipeA, cmpI, add_I, sub_I, negA, ok_bind, sizeLine_eq, Nat.reduceLeDiff, eq_I, isi_tup, isi_str, isi_int, isi_boo, len_tup, qlt, qle, qgt, qge, rg_if, ev_ok, ev_bind, ev_if, ev_call, es_nx, es_rt, es_seq, es_then, es_if, List.getElem?_cons_succ, List.getElem?_cons_zero, List.set_cons_succ, List.set_cons_zero, List.length_cons, List.length_nil, List.map_cons, List.map_nil, List.replicate, List.cons_append, List.nil_append, Option.bind_some, Option.map_some, Bool.not_true, Bool.not_false, Bool.false_eq_true, if_true, if_false, decide_true, decide_false, true_and, and_true, Nat.zero_add, Nat.add_zero, Nat.reduceAdd, Nat.reduceSub, reduceIte, Nat.sub_self, Nat.succ_sub_succ_eq_sub, Nat.add_one_sub_one, sl_2 hl2, c_lp, c_rp, c_sp, c_co, c_lb, c_rb, c_mi, c_pl, c_0, c_un, c_m0, c_em, c_sm, c_ss, c_fi, m_lp, m_rp, m_sp, m_co, m_lb, m_rb, m_mi, m_pl, m_0, m_un, m_m0, m_em, m_sm, m_ss, eq_S, sm_take hs, e2]
    exact ⟨⟨1, er, rfl⟩, Gm.refl⟩
  have er := hT e2
  refine step_seq (fun s h2 => s = [some (.str (S cs)), some (.int sg), some (.int (i : Int)), none, none, none] ∧ h = h2) ?_ ?_
  · simp only [seqD, raiseD, raiseVD, par3D, ex_bind, ev_ex, es_ex, ifD, retD, retND, dropD, setD, nextD, varD, conD, bin2, un1, testD, boolR, notT, andT, orT, ifE, andV, orV, notV, tupD, lstD, cbD, nilD, consD, asgD, parD, nameG, tupG, consG, nilG, setItD, augD, augItD, methD, forD, whileD, lcD, lc2D, sliceD, someD, noneD, chain3, truD, truR, orTD, andTD, notTD, joinedD, glueD, lstRg, rg1, rg2, itRg1, itRg2, itSeq, itEn, dnewKD, newK, newL, maxKD, yesT, wipeA, cmpI, add_I, sub_I, negA, ok_bind, sizeLine_eq, Nat.reduceLeDiff, eq_I, isi_tup, isi_str, isi_int, isi_boo, len_tup, qlt, qle, qgt, qge, rg_if, ev_ok, ev_bind, ev_if, ev_call, es_nx, es_rt, es_seq, es_then, es_if, List.getElem?_cons_succ, List.getElem?_cons_zero, List.set_cons_succ, List.set_cons_zero, List.length_cons, List.length_nil, List.map_cons, List.map_nil, List.replicate, List.cons_append, List.nil_append, Option.bind_some, Option.map_some, Bool.not_true, Bool.not_false, Bool.false_eq_true, if_true, if_false, decide_true, decide_false, true_and, and_true, Nat.zero_add, Nat.add_zero, Nat.reduceAdd, Nat.reduceSub, reduceIte, Nat.sub_self, Nat.succ_sub_succ_eq_sub, Nat.add_one_sub_one, sl_2 hl2, c_lp, c_rp, c_sp, c_co, c_lb, c_rb, c_mi, c_pl, c_0, c_un, c_m0, c_em, c_sm, c_ss, c_fi, m_lp, m_rp, m_sp, m_co, m_lb, m_rb, m_mi, m_pl, m_0, m_un, m_m0, m_em, m_sm, m_ss, eq_S, sm_take hs, e2, and_self]
  rintro s h2 ⟨rfl, rfl⟩
  unfold termsB at er
  cases et : term cs i with
  | error e =>
    rw [et] at er
    refine step_seq (fun _ _ => False) ?_ (fun _ _ z => z.elim)
    simp only [seqD, raiseD, raiseVD, par3D, ex_bind, ev_ex, es_ex, ifD, retD, retND, dropD, setD, nextD, varD, conD, bin2, un1, testD, boolR, notT, andT, orT, ifE, andV, orV, notV, tupD, lstD, cbD, nilD, consD, asgD, parD, nameG, tupG, consG, nilG, setItD, augD, augItD, methD, forD, whileD, lcD, lc2D, sliceD, someD, noneD, chain3, truD, truR, orTD, andTD, notTD, joinedD, glueD, lstRg, rg1, rg2, itRg1, itRg2, itSeq, itEn, dnewKD, newK, newL, maxKD, yesT, wipeA, cmpI, add_I, sub_I, negA, ok_bind, sizeLine_eq, Nat.reduceLeDiff, eq_I, isi_tup, isi_str, isi_int, isi_boo, len_tup, qlt, qle, qgt, qge, rg_if, ev_ok, ev_bind, ev_if, ev_call, es_nx, es_rt, es_seq, es_then, es_if, List.getElem?_cons_succ, List.getElem?_cons_zero, List.set_cons_succ, List.set_cons_zero, List.length_cons, List.length_nil, List.map_cons, List.map_nil, List.replicate, List.cons_append, List.nil_append, Option.bind_some, Option.map_some, Bool.not_true, Bool.not_false, Bool.false_eq_true, if_true, if_false, decide_true, decide_false, true_and, and_true, Nat.zero_add, Nat.add_zero, Nat.reduceAdd, Nat.reduceSub, reduceIte, Nat.sub_self, Nat.succ_sub_succ_eq_sub, Nat.add_one_sub_one, term_at_E hn hl hs, et]
    exact ⟨⟨e, er, rfl⟩, Gm.refl⟩
  | ok q =>
  obtain ⟨⟨v, p⟩, j⟩ := q
  rw [et] at er
  obtain ⟨hv, hj1, hj2⟩ := term_in et
  refine step_seq (fun s h2 => s = [some (.str (S cs)), some (.int sg), some (.int (j : Int)), some (.int (v : Int)), some (.int (p : Int)), none] ∧ h = h2) ?_ ?_
  · simp only [seqD, raiseD, raiseVD, par3D, ex_bind, ev_ex, es_ex, ifD, retD, retND, dropD, setD, nextD, varD, conD, bin2, un1, testD, boolR, notT, andT, orT, ifE, andV, orV, notV, tupD, lstD, cbD, nilD, consD, asgD, parD, nameG, tupG, consG, nilG, setItD, augD, augItD, methD, forD, whileD, lcD, lc2D, sliceD, someD, noneD, chain3, truD, truR, orTD, andTD, notTD, joinedD, glueD, lstRg, rg1, rg2, itRg1, itRg2, itSeq, itEn, dnewKD, newK, newL, maxKD, yesT, wipeA, cmpI, add_I, sub_I, negA, ok_bind, sizeLine_eq, Nat.reduceLeDiff, eq_I, isi_tup, isi_str, isi_int, isi_boo, len_tup, qlt, qle, qgt, qge, rg_if, ev_ok, ev_bind, ev_if, ev_call, es_nx, es_rt, es_seq, es_then, es_if, List.getElem?_cons_succ, List.getElem?_cons_zero, List.set_cons_succ, List.set_cons_zero, List.length_cons, List.length_nil, List.map_cons, List.map_nil, List.replicate, List.cons_append, List.nil_append, Option.bind_some, Option.map_some, Bool.not_true, Bool.not_false, Bool.false_eq_true, if_true, if_false, decide_true, decide_false, true_and, and_true, Nat.zero_add, Nat.add_zero, Nat.reduceAdd, Nat.reduceSub, reduceIte, Nat.sub_self, Nat.succ_sub_succ_eq_sub, Nat.add_one_sub_one, term_at_E hn hl hs, et, and_self]
  rintro s h2 ⟨rfl, rfl⟩
  refine step_seq (fun s h2 => s = [some (.str (S cs)), some (.int sg), some (.int (j : Int)), some (.int (v : Int)), some (.int (p : Int)), some (.ref h.length)] ∧ h2 = h ++ [.lst ([(sg * v, p)].map pairA)]) ?_ ?_
  · simp only [seqD, raiseD, raiseVD, par3D, ex_bind, ev_ex, es_ex, ifD, retD, retND, dropD, setD, nextD, varD, conD, bin2, un1, testD, boolR, notT, andT, orT, ifE, andV, orV, notV, tupD, lstD, cbD, nilD, consD, asgD, parD, nameG, tupG, consG, nilG, setItD, augD, augItD, methD, forD, whileD, lcD, lc2D, sliceD, someD, noneD, chain3, truD, truR, orTD, andTD, notTD, joinedD, glueD, lstRg, rg1, rg2, itRg1, itRg2, itSeq, itEn, dnewKD, newK, newL, maxKD, yesT, wipeA, cmpI, add_I, sub_I, negA, ok_bind, sizeLine_eq, Nat.reduceLeDiff, eq_I, isi_tup, isi_str, isi_int, isi_boo, len_tup, qlt, qle, qgt, qge, rg_if, ev_ok, ev_bind, ev_if, ev_call, es_nx, es_rt, es_seq, es_then, es_if, List.getElem?_cons_succ, List.getElem?_cons_zero, List.set_cons_succ, List.set_cons_zero, List.length_cons, List.length_nil, List.map_cons, List.map_nil, List.replicate, List.cons_append, List.nil_append, Option.bind_some, Option.map_some, Bool.not_true, Bool.not_false, Bool.false_eq_true, if_true, if_false, decide_true, decide_false, true_and, and_true, Nat.zero_add, Nat.add_zero, Nat.reduceAdd, Nat.reduceSub, reduceIte, Nat.sub_self, Nat.succ_sub_succ_eq_sub, Nat.add_one_sub_one, mulsg hsg hv]
    all_goals first | trivial | rfl | exact ⟨trivial, rfl⟩
  rintro s h2 ⟨rfl, rfl⟩
  refine step_seq (fun s h4 => ∃ (ts : List (Int × Nat)) (a b c d : Option A), termsR cs = .ok ts ∧ ts.length ≤ cs.length ∧ s = [some (.str (S cs)), a, b, c, d, some (.ref h.length)] ∧ Gm none h h4 ∧ h4[h.length]? = some (.lst (ts.map pairA))) ?_ ?_
  · refine while_m (fun m s h4 => ∃ (acc : List (Int × Nat)) (j : Nat) (a c d : Option A), s = [some (.str (S cs)), a, some (.int (j : Int)), c, d, some (.ref h.length)] ∧ acc.length ≤ j ∧ j ≤ cs.length ∧ cs.length < m + j ∧ Gm none h h4 ∧ h4[h.length]? = some (.lst (acc.map pairA)) ∧ termsR cs = termsC cs m acc j) ?_ n (cs.length + 1) _ _ (by omega)
      ⟨[(sg * v, p)], j, _, _, _, rfl, by simp; omega, hj2, by omega, Gm.refl.app, get_app, er⟩
    rintro m s h4 ⟨acc, j, a, c, d, rfl, ha, hj, hm, gm, gp, er⟩
    obtain ⟨m, rfl⟩ : ∃ k, m = k + 1 := ⟨m - 1, by omega⟩
    unfold termsC at er
    by_cases e0 : j < cs.length
    · rw [if_pos e0] at er
      have n0 : (j : Int) < (cs.length : Int) := by omega
      refine Ev.mono (Q := fun t h1 => t = true ∧ h4 = h1) (by simp only [seqD, raiseD, raiseVD, par3D, ex_bind, ev_ex, es_ex, ifD, retD, retND, dropD, setD, nextD, varD, conD, bin2, un1, testD, boolR, notT, andT, orT, ifE, andV, orV, notV, tupD, lstD, cbD, nilD, consD, asgD, parD, nameG, tupG, consG, nilG, setItD, augD, augItD, methD, forD, whileD, lcD, lc2D, sliceD, someD, noneD, chain3, truD, truR, orTD, andTD, notTD, joinedD, glueD, lstRg, rg1, rg2, itRg1, itRg2, itSeq, itEn, dnewKD, newK, newL, maxKD, yesT, wipeA, cmpI, add_I, sub_I, negA, ok_bind, sizeLine_eq, Nat.reduceLeDiff, eq_I, isi_tup, isi_str, isi_int, isi_boo, len_tup, qlt, qle, qgt, qge, rg_if, ev_ok, ev_bind, ev_if, ev_call, es_nx, es_rt, es_seq, es_then, es_if, List.getElem?_cons_succ, List.getElem?_cons_zero, List.set_cons_succ, List.set_cons_zero, List.length_cons, List.length_nil, List.map_cons, List.map_nil, List.replicate, List.cons_append, List.nil_append, Option.bind_some, Option.map_some, Bool.not_true, Bool.not_false, Bool.false_eq_true, if_true, if_false, decide_true, decide_false, true_and, and_true, Nat.zero_add, Nat.add_zero, Nat.reduceAdd, Nat.reduceSub, reduceIte, Nat.sub_self, Nat.succ_sub_succ_eq_sub, Nat.add_one_sub_one, len_S hl2, n0, and_self]) ?_
      rintro _ _ ⟨rfl, rfl⟩
      simp only [if_true]
      refine ⟨m, by omega, ?_⟩
      by_cases e1 : cs[j]? = some 32
      · rw [if_pos e1] at er
        refine step_seq (fun s h5 => s = [some (.str (S cs)), a, some (.int ((j + 1 : Nat) : Int)), c, d, some (.ref h.length)] ∧ h4 = h5) ?_ ?_
        · simp only [seqD, raiseD, raiseVD, par3D, ex_bind, ev_ex, es_ex, ifD, retD, retND, dropD, setD, nextD, varD, conD, bin2, un1, testD, boolR, notT, andT, orT, ifE, andV, orV, notV, tupD, lstD, cbD, nilD, consD, asgD, parD, nameG, tupG, consG, nilG, setItD, augD, augItD, methD, forD, whileD, lcD, lc2D, sliceD, someD, noneD, chain3, truD, truR, orTD, andTD, notTD, joinedD, glueD, lstRg, rg1, rg2, itRg1, itRg2, itSeq, itEn, dnewKD, newK, newL, maxKD, yesT, wipeA, cmpI, add_I, sub_I, negA, ok_bind, sizeLine_eq, Nat.reduceLeDiff, eq_I, isi_tup, isi_str, isi_int, isi_boo, len_tup, qlt, qle, qgt, qge, rg_if, ev_ok, ev_bind, ev_if, ev_call, es_nx, es_rt, es_seq, es_then, es_if, List.getElem?_cons_succ, List.getElem?_cons_zero, List.set_cons_succ, List.set_cons_zero, List.length_cons, List.length_nil, List.map_cons, List.map_nil, List.replicate, List.cons_append, List.nil_append, Option.bind_some, Option.map_some, Bool.not_true, Bool.not_false, Bool.false_eq_true, if_true, if_false, decide_true, decide_false, true_and, and_true, Nat.zero_add, Nat.add_zero, Nat.reduceAdd, Nat.reduceSub, reduceIte, Nat.sub_self, Nat.succ_sub_succ_eq_sub, Nat.add_one_sub_one, c_lp, c_rp, c_sp, c_co, c_lb, c_rb, c_mi, c_pl, c_0, c_un, c_m0, c_em, c_sm, c_ss, c_fi, m_lp, m_rp, m_sp, m_co, m_lb, m_rb, m_mi, m_pl, m_0, m_un, m_m0, m_em, m_sm, m_ss, require_sign_E hl hs, e1, and_self]
        rintro s h5 ⟨rfl, rfl⟩
        by_cases e2 : cs[j + 1]? = some 43 ∨ cs[j + 1]? = some 45
        · rw [if_pos e2] at er
          obtain ⟨c1, ec⟩ : ∃ c1, cs[j + 1]? = some c1 := by rcases e2 with z | z <;> exact ⟨_, z⟩
          have e2' : (decide (cs[j + 1]? = some 43) || decide (cs[j + 1]? = some 45)) = true := by simpa using e2
          have smc : sm [c1] = true := sm_sub hs fun d hd => by simp at hd; subst hd; exact List.mem_of_getElem? ec
          refine step_seq (fun s h5 => s = [some (.str (S cs)), a, some (.int ((j + 1 : Nat) : Int)), c, d, some (.ref h.length)] ∧ h4 = h5) ?_ ?_
          · simp only [seqD, raiseD, raiseVD, par3D, ex_bind, ev_ex, es_ex, ifD, retD, retND, dropD, setD, nextD, varD, conD, bin2, un1, testD, boolR, notT, andT, orT, ifE, andV, orV, notV, tupD, lstD, cbD, nilD, consD, asgD, parD, nameG, tupG, consG, nilG, setItD, augD, augItD, methD, forD, whileD, lcD, lc2D, sliceD, someD, noneD, chain3, truD, truR, orTD, andTD, notTD, joinedD, glueD, lstRg, rg1, rg2, itRg1, itRg2, itSeq, itEn, dnewKD, newK, newL, maxKD, yesT, wipeA, cmpI, add_I, sub_I, negA, ok_bind, sizeLine_eq, Nat.reduceLeDiff, eq_I, isi_tup, isi_str, isi_int, isi_boo, len_tup, qlt, qle, qgt, qge, rg_if, ev_ok, ev_bind, ev_if, ev_call, es_nx, es_rt, es_seq, es_then, es_if, List.getElem?_cons_succ, List.getElem?_cons_zero, List.set_cons_succ, List.set_cons_zero, List.length_cons, List.length_nil, List.map_cons, List.map_nil, List.replicate, List.cons_append, List.nil_append, Option.bind_some, Option.map_some, Bool.not_true, Bool.not_false, Bool.false_eq_true, if_true, if_false, decide_true, decide_false, true_and, and_true, Nat.zero_add, Nat.add_zero, Nat.reduceAdd, Nat.reduceSub, reduceIte, Nat.sub_self, Nat.succ_sub_succ_eq_sub, Nat.add_one_sub_one, addA, nat1, sl_S hl2, c_lp, c_rp, c_sp, c_co, c_lb, c_rb, c_mi, c_pl, c_0, c_un, c_m0, c_em, c_sm, c_ss, c_fi, m_lp, m_rp, m_sp, m_co, m_lb, m_rb, m_mi, m_pl, m_0, m_un, m_m0, m_em, m_sm, m_ss, in_pm, take1, e2', and_self]
          rintro s h5 ⟨rfl, rfl⟩
          refine step_seq (fun s h5 => s = [some (.str (S cs)), some (.int (sgI cs (j + 1))), some (.int ((j + 1 : Nat) : Int)), c, d, some (.ref h.length)] ∧ h4 = h5) ?_ ?_
          · unfold sgI
            by_cases e3 : c1 = 43
            · subst e3
              simp only [seqD, raiseD, raiseVD, par3D, ex_bind, ev_ex, es_ex, ifD, retD, retND, dropD, setD, nextD, varD, conD, bin2, un1, testD, boolR, notT, andT, orT, ifE, andV, orV, notV, tupD, lstD, cbD, nilD, consD, asgD, parD, nameG, tupG, consG, nilG, setItD, augD, augItD, methD, forD, whileD, lcD, lc2D, sliceD, someD, noneD, chain3, truD, truR, orTD, andTD, notTD, joinedD, glueD, lstRg, rg1, rg2, itRg1, itRg2, itSeq, itEn, dnewKD, newK, newL, maxKD, yesT, wipeA, cmpI, add_I, sub_I, negA, ok_bind, sizeLine_eq, Nat.reduceLeDiff, eq_I, isi_tup, isi_str, isi_int, isi_boo, len_tup, qlt, qle, qgt, qge, rg_if, ev_ok, ev_bind, ev_if, ev_call, es_nx, es_rt, es_seq, es_then, es_if, List.getElem?_cons_succ, List.getElem?_cons_zero, List.set_cons_succ, List.set_cons_zero, List.length_cons, List.length_nil, List.map_cons, List.map_nil, List.replicate, List.cons_append, List.nil_append, Option.bind_some, Option.map_some, Bool.not_true, Bool.not_false, Bool.false_eq_true, if_true, if_false, decide_true, decide_false, true_and, and_true, Nat.zero_add, Nat.add_zero, Nat.reduceAdd, Nat.reduceSub, reduceIte, Nat.sub_self, Nat.succ_sub_succ_eq_sub, Nat.add_one_sub_one, ix_S hl2 ec, c_lp, c_rp, c_sp, c_co, c_lb, c_rb, c_mi, c_pl, c_0, c_un, c_m0, c_em, c_sm, c_ss, c_fi, m_lp, m_rp, m_sp, m_co, m_lb, m_rb, m_mi, m_pl, m_0, m_un, m_m0, m_em, m_sm, m_ss, eq_Sc, ec, and_self]
            · have e3' : ¬ (some c1 = some 43) := by simp [e3]
              simp only [seqD, raiseD, raiseVD, par3D, ex_bind, ev_ex, es_ex, ifD, retD, retND, dropD, setD, nextD, varD, conD, bin2, un1, testD, boolR, notT, andT, orT, ifE, andV, orV, notV, tupD, lstD, cbD, nilD, consD, asgD, parD, nameG, tupG, consG, nilG, setItD, augD, augItD, methD, forD, whileD, lcD, lc2D, sliceD, someD, noneD, chain3, truD, truR, orTD, andTD, notTD, joinedD, glueD, lstRg, rg1, rg2, itRg1, itRg2, itSeq, itEn, dnewKD, newK, newL, maxKD, yesT, wipeA, cmpI, add_I, sub_I, negA, ok_bind, sizeLine_eq, Nat.reduceLeDiff, eq_I, isi_tup, isi_str, isi_int, isi_boo, len_tup, qlt, qle, qgt, qge, rg_if, ev_ok, ev_bind, ev_if, ev_call, es_nx, es_rt, es_seq, es_then, es_if, List.getElem?_cons_succ, List.getElem?_cons_zero, List.set_cons_succ, List.set_cons_zero, List.length_cons, List.length_nil, List.map_cons, List.map_nil, List.replicate, List.cons_append, List.nil_append, Option.bind_some, Option.map_some, Bool.not_true, Bool.not_false, Bool.false_eq_true, if_true, if_false, decide_true, decide_false, true_and, and_true, Nat.zero_add, Nat.add_zero, Nat.reduceAdd, Nat.reduceSub, reduceIte, Nat.sub_self, Nat.succ_sub_succ_eq_sub, Nat.add_one_sub_one, ix_S hl2 ec, c_lp, c_rp, c_sp, c_co, c_lb, c_rb, c_mi, c_pl, c_0, c_un, c_m0, c_em, c_sm, c_ss, c_fi, m_lp, m_rp, m_sp, m_co, m_lb, m_rb, m_mi, m_pl, m_0, m_un, m_m0, m_em, m_sm, m_ss, eq_Sc, smc, ec, e3, e3', and_self]
          rintro s h5 ⟨rfl, rfl⟩
          by_cases e4 : cs[j + 2]? = some 32
          · rw [if_pos e4] at er
            have e4' : cs[j + 1 + 1]? = some 32 := e4
            cases et : term cs (j + 3) with
            | error e =>
              rw [et] at er
              have et' : term cs (j + 1 + 1 + 1) = .error e := et
              refine step_seq (fun _ _ => False) ?_ (fun _ _ z => z.elim)
              simp only [seqD, raiseD, raiseVD, par3D, ex_bind, ev_ex, es_ex, ifD, retD, retND, dropD, setD, nextD, varD, conD, bin2, un1, testD, boolR, notT, andT, orT, ifE, andV, orV, notV, tupD, lstD, cbD, nilD, consD, asgD, parD, nameG, tupG, consG, nilG, setItD, augD, augItD, methD, forD, whileD, lcD, lc2D, sliceD, someD, noneD, chain3, truD, truR, orTD, andTD, notTD, joinedD, glueD, lstRg, rg1, rg2, itRg1, itRg2, itSeq, itEn, dnewKD, newK, newL, maxKD, yesT, wipeA, cmpI, add_I, sub_I, negA, ok_bind, sizeLine_eq, Nat.reduceLeDiff, eq_I, isi_tup, isi_str, isi_int, isi_boo, len_tup, qlt, qle, qgt, qge, rg_if, ev_ok, ev_bind, ev_if, ev_call, es_nx, es_rt, es_seq, es_then, es_if, List.getElem?_cons_succ, List.getElem?_cons_zero, List.set_cons_succ, List.set_cons_zero, List.length_cons, List.length_nil, List.map_cons, List.map_nil, List.replicate, List.cons_append, List.nil_append, Option.bind_some, Option.map_some, Bool.not_true, Bool.not_false, Bool.false_eq_true, if_true, if_false, decide_true, decide_false, true_and, and_true, Nat.zero_add, Nat.add_zero, Nat.reduceAdd, Nat.reduceSub, reduceIte, Nat.sub_self, Nat.succ_sub_succ_eq_sub, Nat.add_one_sub_one, addA, nat1, c_lp, c_rp, c_sp, c_co, c_lb, c_rb, c_mi, c_pl, c_0, c_un, c_m0, c_em, c_sm, c_ss, c_fi, m_lp, m_rp, m_sp, m_co, m_lb, m_rb, m_mi, m_pl, m_0, m_un, m_m0, m_em, m_sm, m_ss, require_sign_E hl hs, e4', term_at_E hn hl hs, et']
              exact ⟨⟨e, er, rfl⟩, gm⟩
            | ok q =>
              obtain ⟨⟨v, p⟩, j'⟩ := q
              rw [et] at er
              have et' : term cs (j + 1 + 1 + 1) = .ok ((v, p), j') := et
              obtain ⟨hv, hj1, hj2⟩ := term_in et
              have hlen : (acc.map pairA).length < 16777216 := by rw [List.length_map]; omega
              refine step_seq (fun s h5 => s = [some (.str (S cs)), some (.int (sgI cs (j + 1))), some (.int (j' : Int)), some (.int (v : Int)), some (.int (p : Int)), some (.ref h.length)] ∧ h4 = h5) ?_ ?_
              · simp only [seqD, raiseD, raiseVD, par3D, ex_bind, ev_ex, es_ex, ifD, retD, retND, dropD, setD, nextD, varD, conD, bin2, un1, testD, boolR, notT, andT, orT, ifE, andV, orV, notV, tupD, lstD, cbD, nilD, consD, asgD, parD, nameG, tupG, consG, nilG, setItD, augD, augItD, methD, forD, whileD, lcD, lc2D, sliceD, someD, noneD, chain3, truD, truR, orTD, andTD, notTD, joinedD, glueD, lstRg, rg1, rg2, itRg1, itRg2, itSeq, itEn, dnewKD, newK, newL, maxKD, yesT, wipeA, cmpI, add_I, sub_I, negA, ok_bind, sizeLine_eq, Nat.reduceLeDiff, eq_I, isi_tup, isi_str, isi_int, isi_boo, len_tup, qlt, qle, qgt, qge, rg_if, ev_ok, ev_bind, ev_if, ev_call, es_nx, es_rt, es_seq, es_then, es_if, List.getElem?_cons_succ, List.getElem?_cons_zero, List.set_cons_succ, List.set_cons_zero, List.length_cons, List.length_nil, List.map_cons, List.map_nil, List.replicate, List.cons_append, List.nil_append, Option.bind_some, Option.map_some, Bool.not_true, Bool.not_false, Bool.false_eq_true, if_true, if_false, decide_true, decide_false, true_and, and_true, Nat.zero_add, Nat.add_zero, Nat.reduceAdd, Nat.reduceSub, reduceIte, Nat.sub_self, Nat.succ_sub_succ_eq_sub, Nat.add_one_sub_one, addA, nat1, c_lp, c_rp, c_sp, c_co, c_lb, c_rb, c_mi, c_pl, c_0, c_un, c_m0, c_em, c_sm, c_ss, c_fi, m_lp, m_rp, m_sp, m_co, m_lb, m_rb, m_mi, m_pl, m_0, m_un, m_m0, m_em, m_sm, m_ss, require_sign_E hl hs, e4', term_at_E hn hl hs, et', and_self]
              rintro s h5 ⟨rfl, rfl⟩
              have ep : A.tup [.int (sgI cs (j + 1) * (v : Int)), .int (p : Int)] = pairA (sgI cs (j + 1) * v, p) := rfl
              simp only [seqD, raiseD, raiseVD, par3D, ex_bind, ev_ex, es_ex, ifD, retD, retND, dropD, setD, nextD, varD, conD, bin2, un1, testD, boolR, notT, andT, orT, ifE, andV, orV, notV, tupD, lstD, cbD, nilD, consD, asgD, parD, nameG, tupG, consG, nilG, setItD, augD, augItD, methD, forD, whileD, lcD, lc2D, sliceD, someD, noneD, chain3, truD, truR, orTD, andTD, notTD, joinedD, glueD, lstRg, rg1, rg2, itRg1, itRg2, itSeq, itEn, dnewKD, newK, newL, maxKD, yesT, wipeA, cmpI, add_I, sub_I, negA, ok_bind, sizeLine_eq, Nat.reduceLeDiff, eq_I, isi_tup, isi_str, isi_int, isi_boo, len_tup, qlt, qle, qgt, qge, rg_if, ev_ok, ev_bind, ev_if, ev_call, es_nx, es_rt, es_seq, es_then, es_if, List.getElem?_cons_succ, List.getElem?_cons_zero, List.set_cons_succ, List.set_cons_zero, List.length_cons, List.length_nil, List.map_cons, List.map_nil, List.replicate, List.cons_append, List.nil_append, Option.bind_some, Option.map_some, Bool.not_true, Bool.not_false, Bool.false_eq_true, if_true, if_false, decide_true, decide_false, true_and, and_true, Nat.zero_add, Nat.add_zero, Nat.reduceAdd, Nat.reduceSub, reduceIte, Nat.sub_self, Nat.succ_sub_succ_eq_sub, Nat.add_one_sub_one, mulsg (sgI_or cs (j + 1)) hv, tyA_ref gp, app_ref gp hlen, ep, snoc_pair]
              exact ⟨acc ++ [(sgI cs (j + 1) * v, p)], j', _, _, _, rfl, by simp; omega, hj2, by omega, gm.set (.inl (Nat.le_refl _)), get_set gp, er⟩
          · rw [if_neg e4] at er
            have e4' : ¬ (cs[j + 1 + 1]? = some 32) := e4
            refine step_seq (fun _ _ => False) ?_ (fun _ _ z => z.elim)
            simp only [seqD, raiseD, raiseVD, par3D, ex_bind, ev_ex, es_ex, ifD, retD, retND, dropD, setD, nextD, varD, conD, bin2, un1, testD, boolR, notT, andT, orT, ifE, andV, orV, notV, tupD, lstD, cbD, nilD, consD, asgD, parD, nameG, tupG, consG, nilG, setItD, augD, augItD, methD, forD, whileD, lcD, lc2D, sliceD, someD, noneD, chain3, truD, truR, orTD, andTD, notTD, joinedD, glueD, lstRg, rg1, rg2, itRg1, itRg2, itSeq, itEn, dnewKD, newK, newL, maxKD, yesT, wipeA, cmpI, add_I, sub_I, negA, ok_bind, sizeLine_eq, Nat.reduceLeDiff, eq_I, isi_tup, isi_str, isi_int, isi_boo, len_tup, qlt, qle, qgt, qge, rg_if, ev_ok, ev_bind, ev_if, ev_call, es_nx, es_rt, es_seq, es_then, es_if, List.getElem?_cons_succ, List.getElem?_cons_zero, List.set_cons_succ, List.set_cons_zero, List.length_cons, List.length_nil, List.map_cons, List.map_nil, List.replicate, List.cons_append, List.nil_append, Option.bind_some, Option.map_some, Bool.not_true, Bool.not_false, Bool.false_eq_true, if_true, if_false, decide_true, decide_false, true_and, and_true, Nat.zero_add, Nat.add_zero, Nat.reduceAdd, Nat.reduceSub, reduceIte, Nat.sub_self, Nat.succ_sub_succ_eq_sub, Nat.add_one_sub_one, addA, nat1, c_lp, c_rp, c_sp, c_co, c_lb, c_rb, c_mi, c_pl, c_0, c_un, c_m0, c_em, c_sm, c_ss, c_fi, m_lp, m_rp, m_sp, m_co, m_lb, m_rb, m_mi, m_pl, m_0, m_un, m_m0, m_em, m_sm, m_ss, require_sign_E hl hs, e4']
            exact ⟨⟨j + 2, er, rfl⟩, gm⟩
        · rw [if_neg e2] at er
          have e2' : (decide (cs[j + 1]? = some 43) || decide (cs[j + 1]? = some 45)) = false := by simpa using e2
          refine step_seq (fun _ _ => False) ?_ (fun _ _ z => z.elim)
          simp only [seqD, raiseD, raiseVD, par3D, ex_bind, ev_ex, es_ex, ifD, retD, retND, dropD, setD, nextD, varD, conD, bin2, un1, testD, boolR, notT, andT, orT, ifE, andV, orV, notV, tupD, lstD, cbD, nilD, consD, asgD, parD, nameG, tupG, consG, nilG, setItD, augD, augItD, methD, forD, whileD, lcD, lc2D, sliceD, someD, noneD, chain3, truD, truR, orTD, andTD, notTD, joinedD, glueD, lstRg, rg1, rg2, itRg1, itRg2, itSeq, itEn, dnewKD, newK, newL, maxKD, yesT, wipeA, cmpI, add_I, sub_I, negA, ok_bind, sizeLine_eq, Nat.reduceLeDiff, eq_I, isi_tup, isi_str, isi_int, isi_boo, len_tup, qlt, qle, qgt, qge, rg_if, ev_ok, ev_bind, ev_if, ev_call, es_nx, es_rt, es_seq, es_then, es_if, List.getElem?_cons_succ, List.getElem?_cons_zero, List.set_cons_succ, List.set_cons_zero, List.length_cons, List.length_nil, List.map_cons, List.map_nil, List.replicate, List.cons_append, List.nil_append, Option.bind_some, Option.map_some, Bool.not_true, Bool.not_false, Bool.false_eq_true, if_true, if_false, decide_true, decide_false, true_and, and_true, Nat.zero_add, Nat.add_zero, Nat.reduceAdd, Nat.reduceSub, reduceIte, Nat.sub_self, Nat.succ_sub_succ_eq_sub, Nat.add_one_sub_one, addA, nat1, sl_S hl2, c_lp, c_rp, c_sp, c_co, c_lb, c_rb, c_mi, c_pl, c_0, c_un, c_m0, c_em, c_sm, c_ss, c_fi, m_lp, m_rp, m_sp, m_co, m_lb, m_rb, m_mi, m_pl, m_0, m_un, m_m0, m_em, m_sm, m_ss, in_pm, take1, e2']
          exact ⟨⟨j + 1, er, rfl⟩, gm⟩
      · rw [if_neg e1] at er
        refine step_seq (fun _ _ => False) ?_ (fun _ _ z => z.elim)
        simp only [seqD, raiseD, raiseVD, par3D, ex_bind, ev_ex, es_ex, ifD, retD, retND, dropD, setD, nextD, varD, conD, bin2, un1, testD, boolR, notT, andT, orT, ifE, andV, orV, notV, tupD, lstD, cbD, nilD, consD, asgD, parD, nameG, tupG, consG, nilG, setItD, augD, augItD, methD, forD, whileD, lcD, lc2D, sliceD, someD, noneD, chain3, truD, truR, orTD, andTD, notTD, joinedD, glueD, lstRg, rg1, rg2, itRg1, itRg2, itSeq, itEn, dnewKD, newK, newL, maxKD, yesT, wipeA, cmpI, add_I, sub_I, negA, ok_bind, sizeLine_eq, Nat.reduceLeDiff, eq_I, isi_tup, isi_str, isi_int, isi_boo, len_tup, qlt, qle, qgt, qge, rg_if, ev_ok, ev_bind, ev_if, ev_call, es_nx, es_rt, es_seq, es_then, es_if, List.getElem?_cons_succ, List.getElem?_cons_zero, List.set_cons_succ, List.set_cons_zero, List.length_cons, List.length_nil, List.map_cons, List.map_nil, List.replicate, List.cons_append, List.nil_append, Option.bind_some, Option.map_some, Bool.not_true, Bool.not_false, Bool.false_eq_true, if_true, if_false, decide_true, decide_false, true_and, and_true, Nat.zero_add, Nat.add_zero, Nat.reduceAdd, Nat.reduceSub, reduceIte, Nat.sub_self, Nat.succ_sub_succ_eq_sub, Nat.add_one_sub_one, c_lp, c_rp, c_sp, c_co, c_lb, c_rb, c_mi, c_pl, c_0, c_un, c_m0, c_em, c_sm, c_ss, c_fi, m_lp, m_rp, m_sp, m_co, m_lb, m_rb, m_mi, m_pl, m_0, m_un, m_m0, m_em, m_sm, m_ss, require_sign_E hl hs, e1]
        exact ⟨⟨j, er, rfl⟩, gm⟩
    · rw [if_neg e0] at er
      have n0 : ¬ ((j : Int) < (cs.length : Int)) := by omega
      refine Ev.mono (Q := fun t h1 => t = false ∧ h4 = h1) (by simp only [seqD, raiseD, raiseVD, par3D, ex_bind, ev_ex, es_ex, ifD, retD, retND, dropD, setD, nextD, varD, conD, bin2, un1, testD, boolR, notT, andT, orT, ifE, andV, orV, notV, tupD, lstD, cbD, nilD, consD, asgD, parD, nameG, tupG, consG, nilG, setItD, augD, augItD, methD, forD, whileD, lcD, lc2D, sliceD, someD, noneD, chain3, truD, truR, orTD, andTD, notTD, joinedD, glueD, lstRg, rg1, rg2, itRg1, itRg2, itSeq, itEn, dnewKD, newK, newL, maxKD, yesT, wipeA, cmpI, add_I, sub_I, negA, ok_bind, sizeLine_eq, Nat.reduceLeDiff, eq_I, isi_tup, isi_str, isi_int, isi_boo, len_tup, qlt, qle, qgt, qge, rg_if, ev_ok, ev_bind, ev_if, ev_call, es_nx, es_rt, es_seq, es_then, es_if, List.getElem?_cons_succ, List.getElem?_cons_zero, List.set_cons_succ, List.set_cons_zero, List.length_cons, List.length_nil, List.map_cons, List.map_nil, List.replicate, List.cons_append, List.nil_append, Option.bind_some, Option.map_some, Bool.not_true, Bool.not_false, Bool.false_eq_true, if_true, if_false, decide_true, decide_false, true_and, and_true, Nat.zero_add, Nat.add_zero, Nat.reduceAdd, Nat.reduceSub, reduceIte, Nat.sub_self, Nat.succ_sub_succ_eq_sub, Nat.add_one_sub_one, len_S hl2, n0, and_self]) ?_
      rintro _ _ ⟨rfl, rfl⟩
      simp only [Bool.false_eq_true, if_false]
      exact ⟨acc, a, _, c, d, er, by omega, rfl, gm, gp⟩
  rintro s h4 ⟨ts, a, b, c, d, er, hts, rfl, gm, gp⟩
  simp only [seqD, raiseD, raiseVD, par3D, ex_bind, ev_ex, es_ex, ifD, retD, retND, dropD, setD, nextD, varD, conD, bin2, un1, testD, boolR, notT, andT, orT, ifE, andV, orV, notV, tupD, lstD, cbD, nilD, consD, asgD, parD, nameG, tupG, consG, nilG, setItD, augD, augItD, methD, forD, whileD, lcD, lc2D, sliceD, someD, noneD, chain3, truD, truR, orTD, andTD, notTD, joinedD, glueD, lstRg, rg1, rg2, itRg1, itRg2, itSeq, itEn, dnewKD, newK, newL, maxKD, yesT, wipeA, cmpI, add_I, sub_I, negA, ok_bind, sizeLine_eq, Nat.reduceLeDiff, eq_I, isi_tup, isi_str, isi_int, isi_boo, len_tup, qlt, qle, qgt, qge, rg_if, ev_ok, ev_bind, ev_if, ev_call, es_nx, es_rt, es_seq, es_then, es_if, List.getElem?_cons_succ, List.getElem?_cons_zero, List.set_cons_succ, List.set_cons_zero, List.length_cons, List.length_nil, List.map_cons, List.map_nil, List.replicate, List.cons_append, List.nil_append, Option.bind_some, Option.map_some, Bool.not_true, Bool.not_false, Bool.false_eq_true, if_true, if_false, decide_true, decide_false, true_and, and_true, Nat.zero_add, Nat.add_zero, Nat.reduceAdd, Nat.reduceSub, reduceIte, Nat.sub_self, Nat.succ_sub_succ_eq_sub, Nat.add_one_sub_one]
  exact ⟨ts, er, hts, gm, gp⟩
end
def addK (l : List Int) (p : Int × Nat) : List Int := l.set p.2 (l.getD p.2 0 + p.1)
def sumK (len : Nat) (ps : List (Int × Nat)) : List Int := ps.foldl addK (List.replicate len 0)
theorem addK_len (l : List Int) (p : Int × Nat) : (addK l p).length = l.length := List.length_set
theorem foldK_len (ps : List (Int × Nat)) : ∀ l : List Int, (ps.foldl addK l).length = l.length := by
  induction ps with
  | nil => intro l; rfl
  | cons p ps ih => intro l; rw [List.foldl_cons, ih, addK_len]
theorem sumK_len (len : Nat) (ps : List (Int × Nat)) : (sumK len ps).length = len := by unfold sumK; rw [foldK_len, List.length_replicate]
theorem take_snoc {α : Type} {zs : List α} {j : Nat} (hj : j < zs.length) : zs.take (j + 1) = zs.take j ++ [zs[j]] := by
  rw [List.take_add_one, List.getElem?_eq_getElem hj]; rfl
theorem abs_I {i : Int} {h : Hs} : bAbs [.int i] h = .ok (.int (i.natAbs : Int)) h := by
  show R.ok (A.int (if i < 0 then -i else i)) h = _
  congr 2
  split <;> omega
theorem ints_I (xs : List Int) : intsOf (xs.map A.int) = some xs := by
  induction xs with
  | nil => rfl
  | cons x xs ih => rw [List.map_cons, intsOf, ih]; rfl
theorem rep0 {k : Nat} {h : Hs} {p : Nat} (e : h[p]? = some (.lst [.int 0])) (hk : k ≤ 1000) : mulA (.ref p) (.int (k : Int)) h = newL ((List.replicate k (0 : Int)).map A.int) h := by
  have q : lstOf h (.ref p) = some [.int 0] := by unfold lstOf; dsimp only; rw [e]
  unfold mulA
  dsimp only
  rw [q]
  dsimp only
  rw [if_pos (by rw [Int.toNat_natCast]; exact ⟨by omega, by omega, small_line (by simp; omega)⟩), Int.toNat_natCast]
  have e2 : (List.replicate k [A.int 0]).flatten = (List.replicate k (0 : Int)).map A.int := by
    induction k with
    | zero => rfl
    | succ k ih => rw [List.replicate_succ, List.flatten_cons, ih (by omega), List.replicate_succ]; rfl
  rw [e2]
theorem rep0T {k : Nat} {h : Hs} (h1 : 1 ≤ k) (hk : k ≤ 1000) : mulA (.tup [.int 0]) (.int (k : Int)) h = .ok (.tup ((List.replicate k (0 : Int)).map A.int)) h := by
  have e2 : (List.replicate k [A.int 0]).flatten = (List.replicate k (0 : Int)).map A.int := by
    induction k with
    | zero => rfl
    | succ k ih =>
      rw [List.replicate_succ, List.flatten_cons, List.replicate_succ]
      by_cases z : k = 0
      · subst z; rfl
      · rw [ih (by omega) (by omega)]; rfl
  unfold mulA
  dsimp only
  by_cases z : k = 1
  · subst z
    rw [if_pos (show ((1 : Nat) : Int) = 1 from rfl)]
    rfl
  · rw [if_neg (by omega), if_pos ⟨by simp, by omega, by omega, by simp⟩, Int.toNat_natCast, e2]
theorem aug_step {n : Nat} {s : Sl} {h : Hs} {p i : Nat} {l : List Int} {v : Int} {T : Tl} (hs3 : s[3]? = some (some (.ref p))) (hs5 : s[5]? = some (some (.int (i : Int)))) (hs4 : s[4]? = some (some (.int v))) (e : h[p]? = some (.lst (l.map A.int))) (hi : i < l.length) (hi2 : i < 1000)
    (q : T.nx s (h.set p (.lst ((addK l (v, i)).map A.int)))) : EvS (augItD (varD 3) (varD 5) (varD 4) n s h) T := by
  unfold augItD varD
  rw [hs3, hs5, hs4]
  dsimp only
  rw [es_then, ev_ok, es_then, ev_ok]
  dsimp only
  rw [e]
  dsimp only
  have hg : (l.map A.int)[i]? = some (.int (l.getD i 0)) := by rw [List.getElem?_map, List.getElem?_eq_getElem hi, List.getD_eq_getElem?_getD, List.getElem?_eq_getElem hi]; rfl
  rw [if_pos (by omega : (0 : Int) ≤ (i : Int) ∧ (i : Int) < 2 ^ 63), Int.toNat_natCast, hg]
  dsimp only
  rw [es_then, ev_ok]
  rw [e]
  dsimp only
  rw [if_pos rfl, es_nx]
  have e2 : (addK l (v, i)).map A.int = (l.map A.int).set i (.int (l.getD i 0 + v)) := by unfold addK; rw [List.map_set]
  rw [← e2]
  exact q
theorem bls_B (bs : List Bool) : blsOf (bs.map A.bl) = some bs := by
  induction bs with
  | nil => rfl
  | cons b bs ih => rw [List.map_cons, blsOf, ih]; rfl
theorem any_B {bs : List Bool} {p : Nat} {h : Hs} (e : h[p]? = some (.lst (bs.map A.bl))) : bAny [.ref p] h = .ok (.bl (bs.any id)) h := by
  have q : (lsOf h (A.ref p)).bind blsOf = some bs := by rw [lsOf_ref e]; exact bls_B bs
  unfold bAny
  dsimp only
  rw [q]
theorem all_B {bs : List Bool} {p : Nat} {h : Hs} (e : h[p]? = some (.lst (bs.map A.bl))) : bAll [.ref p] h = .ok (.bl (bs.all id)) h := by
  have q : (lsOf h (A.ref p)).bind blsOf = some bs := by rw [lsOf_ref e]; exact bls_B bs
  unfold bAll
  dsimp only
  rw [q]
def goodAt (B z : Int) : Bool := decide (-B < z) && decide (z < B)
def goodB (z : Int) : Bool := goodAt 1000000000000000000000000000000000000000000000000000000000000 z
theorem is_integer_E {n : Nat} {h : Hs} {i : Int} : f_is_integer n [.int i] h = .ok (.bl (goodB i)) h := by
  refine Ev.isOk (ev_body rfl ?_)
  unfold goodB goodAt
  cases h1 : decide (-1000000000000000000000000000000000000000000000000000000000000 < i) with
  | false => simp only [d_is_integer, seqD, raiseD, raiseVD, par3D, ex_bind, ev_ex, es_ex, ifD, retD, retND, dropD, setD, nextD, varD, conD, bin2, un1, testD, boolR, notT, andT, orT, ifE, andV, orV, notV, tupD, lstD, cbD, nilD, consD, asgD, parD, nameG, tupG, consG, nilG, setItD, augD, augItD, methD, forD, whileD, lcD, lc2D, sliceD, someD, noneD, chain3, truD, truR, orTD, andTD, notTD, joinedD, glueD, lstRg, rg1, rg2, itRg1, itRg2, itSeq, itEn, dnewKD, newK, newL, maxKD, yesT, wipeA, cmpI, add_I, sub_I, negA, ok_bind, sizeLine_eq, Nat.reduceLeDiff, eq_I, isi_tup, isi_str, isi_int, isi_boo, len_tup, qlt, qle, qgt, qge, rg_if, ev_ok, ev_bind, ev_if, ev_call, es_nx, es_rt, es_seq, es_then, es_if, List.getElem?_cons_succ, List.getElem?_cons_zero, List.set_cons_succ, List.set_cons_zero, List.length_cons, List.length_nil, List.map_cons, List.map_nil, List.replicate, List.cons_append, List.nil_append, Option.bind_some, Option.map_some, Bool.not_true, Bool.not_false, Bool.false_eq_true, if_true, if_false, decide_true, decide_false, true_and, and_true, Nat.zero_add, Nat.add_zero, Nat.reduceAdd, Nat.reduceSub, reduceIte, Nat.sub_self, Nat.succ_sub_succ_eq_sub, Nat.add_one_sub_one, is_plain_int, h1, Bool.false_and, and_self]
  | true =>
    cases h2 : decide (i < 1000000000000000000000000000000000000000000000000000000000000) with
    | false => simp only [d_is_integer, seqD, raiseD, raiseVD, par3D, ex_bind, ev_ex, es_ex, ifD, retD, retND, dropD, setD, nextD, varD, conD, bin2, un1, testD, boolR, notT, andT, orT, ifE, andV, orV, notV, tupD, lstD, cbD, nilD, consD, asgD, parD, nameG, tupG, consG, nilG, setItD, augD, augItD, methD, forD, whileD, lcD, lc2D, sliceD, someD, noneD, chain3, truD, truR, orTD, andTD, notTD, joinedD, glueD, lstRg, rg1, rg2, itRg1, itRg2, itSeq, itEn, dnewKD, newK, newL, maxKD, yesT, wipeA, cmpI, add_I, sub_I, negA, ok_bind, sizeLine_eq, Nat.reduceLeDiff, eq_I, isi_tup, isi_str, isi_int, isi_boo, len_tup, qlt, qle, qgt, qge, rg_if, ev_ok, ev_bind, ev_if, ev_call, es_nx, es_rt, es_seq, es_then, es_if, List.getElem?_cons_succ, List.getElem?_cons_zero, List.set_cons_succ, List.set_cons_zero, List.length_cons, List.length_nil, List.map_cons, List.map_nil, List.replicate, List.cons_append, List.nil_append, Option.bind_some, Option.map_some, Bool.not_true, Bool.not_false, Bool.false_eq_true, if_true, if_false, decide_true, decide_false, true_and, and_true, Nat.zero_add, Nat.add_zero, Nat.reduceAdd, Nat.reduceSub, reduceIte, Nat.sub_self, Nat.succ_sub_succ_eq_sub, Nat.add_one_sub_one, is_plain_int, h1, h2, Bool.true_and, and_self]
    | true => simp only [d_is_integer, seqD, raiseD, raiseVD, par3D, ex_bind, ev_ex, es_ex, ifD, retD, retND, dropD, setD, nextD, varD, conD, bin2, un1, testD, boolR, notT, andT, orT, ifE, andV, orV, notV, tupD, lstD, cbD, nilD, consD, asgD, parD, nameG, tupG, consG, nilG, setItD, augD, augItD, methD, forD, whileD, lcD, lc2D, sliceD, someD, noneD, chain3, truD, truR, orTD, andTD, notTD, joinedD, glueD, lstRg, rg1, rg2, itRg1, itRg2, itSeq, itEn, dnewKD, newK, newL, maxKD, yesT, wipeA, cmpI, add_I, sub_I, negA, ok_bind, sizeLine_eq, Nat.reduceLeDiff, eq_I, isi_tup, isi_str, isi_int, isi_boo, len_tup, qlt, qle, qgt, qge, rg_if, ev_ok, ev_bind, ev_if, ev_call, es_nx, es_rt, es_seq, es_then, es_if, List.getElem?_cons_succ, List.getElem?_cons_zero, List.set_cons_succ, List.set_cons_zero, List.length_cons, List.length_nil, List.map_cons, List.map_nil, List.replicate, List.cons_append, List.nil_append, Option.bind_some, Option.map_some, Bool.not_true, Bool.not_false, Bool.false_eq_true, if_true, if_false, decide_true, decide_false, true_and, and_true, Nat.zero_add, Nat.add_zero, Nat.reduceAdd, Nat.reduceSub, reduceIte, Nat.sub_self, Nat.succ_sub_succ_eq_sub, Nat.add_one_sub_one, is_plain_int, h1, h2, Bool.true_and, and_self]
/-- [g(x) for x in xs], a test of each -/
theorem lc_B {β : Type} {X : Xn → Hs → Prop} {st : Step} {g : DG} {e : DE} {n k : Nat} {s : Sl} {h : Hs} {Q : List A → Hs → Prop} {ys : List β} {G : β → A} (hk : ys.length < k) (hz : ys.length < 16777216)
    (hst : ∀ j (hj : j < ys.length), ∃ x s1, st j h = some (some x) ∧ g x s = some s1 ∧ e n s1 h = .ok (G ys[j]) h) (hend : st ys.length h = some none) (q : Q (ys.map G) h) :
    Ev X (lcL st g yesT e n k 0 [] s h) Q := by
  refine lc_any (m := ys.length) (fun j acc h' => j ≤ ys.length ∧ acc = (ys.take j).map G ∧ h' = h) ?_ ?_ ys.length k 0 [] h (Nat.zero_add _) hk ⟨Nat.zero_le _, rfl, rfl⟩
  · rintro j acc h' hj ⟨_, rfl, rfl⟩
    obtain ⟨x, s1, e1, e2, e3⟩ := hst j hj
    refine ⟨x, s1, e1, e2, ?_⟩
    rw [yesT, ev_ok]
    simp only [if_true]
    rw [e3, ev_ok]
    exact ⟨lt_line (by rw [List.length_map, List.length_take]; omega), hj, by rw [take_snoc hj, List.map_append]; rfl, rfl⟩
  · rintro acc h' ⟨_, rfl, rfl⟩
    exact ⟨hend, by rw [List.take_length]; exact q⟩
theorem are_integers_E {X : Xn → Hs → Prop} {n : Nat} {h : Hs} {xs : List Int} (hn : 5000 ≤ n) (h1 : 1 ≤ xs.length) (h2 : xs.length ≤ 60) : Ev X (f_are_integers n [.tup (xs.map A.int)] h) fun a h' => a = .bl (xs.all goodB) ∧ Gm none h h' := by
  refine ev_body rfl ?_
  simp only [d_are_integers, seqD, raiseD, raiseVD, par3D, ex_bind, ev_ex, es_ex, ifD, retD, retND, dropD, setD, nextD, varD, conD, bin2, un1, testD, boolR, notT, andT, orT, ifE, andV, orV, notV, tupD, lstD, cbD, nilD, consD, asgD, parD, nameG, tupG, consG, nilG, setItD, augD, augItD, methD, forD, whileD, lcD, lc2D, sliceD, someD, noneD, chain3, truD, truR, orTD, andTD, notTD, joinedD, glueD, lstRg, rg1, rg2, itRg1, itRg2, itSeq, itEn, dnewKD, newK, newL, maxKD, yesT, wipeA, cmpI, add_I, sub_I, negA, ok_bind, sizeLine_eq, Nat.reduceLeDiff, eq_I, isi_tup, isi_str, isi_int, isi_boo, len_tup, qlt, qle, qgt, qge, rg_if, ev_ok, ev_bind, ev_if, ev_call, es_nx, es_rt, es_seq, es_then, es_if, List.getElem?_cons_succ, List.getElem?_cons_zero, List.set_cons_succ, List.set_cons_zero, List.length_cons, List.length_nil, List.map_cons, List.map_nil, List.replicate, List.cons_append, List.nil_append, Option.bind_some, Option.map_some, Bool.not_true, Bool.not_false, Bool.false_eq_true, if_true, if_false, decide_true, decide_false, true_and, and_true, Nat.zero_add, Nat.add_zero, Nat.reduceAdd, Nat.reduceSub, reduceIte, Nat.sub_self, Nat.succ_sub_succ_eq_sub, Nat.add_one_sub_one, List.length_map]
  simp only [show (1 : Int) ≤ (xs.length : Int) by omega, show (xs.length : Int) ≤ 60 by omega, seqD, raiseD, raiseVD, par3D, ex_bind, ev_ex, es_ex, ifD, retD, retND, dropD, setD, nextD, varD, conD, bin2, un1, testD, boolR, notT, andT, orT, ifE, andV, orV, notV, tupD, lstD, cbD, nilD, consD, asgD, parD, nameG, tupG, consG, nilG, setItD, augD, augItD, methD, forD, whileD, lcD, lc2D, sliceD, someD, noneD, chain3, truD, truR, orTD, andTD, notTD, joinedD, glueD, lstRg, rg1, rg2, itRg1, itRg2, itSeq, itEn, dnewKD, newK, newL, maxKD, yesT, wipeA, cmpI, add_I, sub_I, negA, ok_bind, sizeLine_eq, Nat.reduceLeDiff, eq_I, isi_tup, isi_str, isi_int, isi_boo, len_tup, qlt, qle, qgt, qge, rg_if, ev_ok, ev_bind, ev_if, ev_call, es_nx, es_rt, es_seq, es_then, es_if, List.getElem?_cons_succ, List.getElem?_cons_zero, List.set_cons_succ, List.set_cons_zero, List.length_cons, List.length_nil, List.map_cons, List.map_nil, List.replicate, List.cons_append, List.nil_append, Option.bind_some, Option.map_some, Bool.not_true, Bool.not_false, Bool.false_eq_true, if_true, if_false, decide_true, decide_false, true_and, and_true, Nat.zero_add, Nat.add_zero, Nat.reduceAdd, Nat.reduceSub, reduceIte, Nat.sub_self, Nat.succ_sub_succ_eq_sub, Nat.add_one_sub_one]
  refine lc_B (ys := xs) (G := fun x => .bl (goodB x)) (by omega) (by omega) (fun j hj => ?_) ?_ ?_
  · refine ⟨.int xs[j], _, by unfold stepX; rw [List.getElem?_map, List.getElem?_eq_getElem hj]; rfl, rfl, ?_⟩
    simp only [callD, seqD, raiseD, raiseVD, par3D, ex_bind, ev_ex, es_ex, ifD, retD, retND, dropD, setD, nextD, varD, conD, bin2, un1, testD, boolR, notT, andT, orT, ifE, andV, orV, notV, tupD, lstD, cbD, nilD, consD, asgD, parD, nameG, tupG, consG, nilG, setItD, augD, augItD, methD, forD, whileD, lcD, lc2D, sliceD, someD, noneD, chain3, truD, truR, orTD, andTD, notTD, joinedD, glueD, lstRg, rg1, rg2, itRg1, itRg2, itSeq, itEn, dnewKD, newK, newL, maxKD, yesT, wipeA, cmpI, add_I, sub_I, negA, ok_bind, sizeLine_eq, Nat.reduceLeDiff, eq_I, isi_tup, isi_str, isi_int, isi_boo, len_tup, qlt, qle, qgt, qge, rg_if, ev_ok, ev_bind, ev_if, ev_call, es_nx, es_rt, es_seq, es_then, es_if, List.getElem?_cons_succ, List.getElem?_cons_zero, List.set_cons_succ, List.set_cons_zero, List.length_cons, List.length_nil, List.map_cons, List.map_nil, List.replicate, List.cons_append, List.nil_append, Option.bind_some, Option.map_some, Bool.not_true, Bool.not_false, Bool.false_eq_true, if_true, if_false, decide_true, decide_false, true_and, and_true, Nat.zero_add, Nat.add_zero, Nat.reduceAdd, Nat.reduceSub, reduceIte, Nat.sub_self, Nat.succ_sub_succ_eq_sub, Nat.add_one_sub_one]
    exact is_integer_E
  · unfold stepX
    rw [List.getElem?_map, List.getElem?_eq_none (Nat.le_refl _)]; rfl
  · have e : (xs.map fun x => A.bl (goodB x)) = (xs.map goodB).map A.bl := by rw [List.map_map]; rfl
    rw [e, all_B get_app, ev_ok]
    refine ⟨?_, Gm.refl.app⟩
    rw [List.all_map]; rfl
def termsT (cs : List Nat) : Except Nat (List (Int × Nat)) := if cs = [48] then .ok [] else termsR cs
def kindsR (cs : List Nat) (len : Nat) : Out := match termsT cs with
  | .error e => .parse e
  | .ok ts => if ts.any (fun q => decide (len ≤ q.2)) then .bad .kinds else if (sumK len ts).all goodB then .told (sumK len ts) else .bad .kinds
theorem read_kinds_E {n len : Nat} {h : Hs} {cs : List Nat} (hn : 5000 ≤ n) (hlen : 1 ≤ len ∧ len ≤ 60) (hl : cs.length ≤ 3000) (hs : sm cs = true) :
    Ev (fun x h' => (kindsR cs len).X x ∧ Gm none h h') (f_read_kinds n [.str (S cs), .int (len : Int)] h) fun a h' => (kindsR cs len).V a ∧ Gm none h h' := by
  have hl2 : cs.length ≤ 16777216 := by omega
  refine ev_body rfl ?_
  unfold d_read_kinds
  refine step_seq (fun s h' => s = [some (.str (S cs)), some (.int (len : Int)), none, none, none, none] ∧ h = h') ?_ ?_
  · simp only [seqD, raiseD, raiseVD, par3D, ex_bind, ev_ex, es_ex, ifD, retD, retND, dropD, setD, nextD, varD, conD, bin2, un1, testD, boolR, notT, andT, orT, ifE, andV, orV, notV, tupD, lstD, cbD, nilD, consD, asgD, parD, nameG, tupG, consG, nilG, setItD, augD, augItD, methD, forD, whileD, lcD, lc2D, sliceD, someD, noneD, chain3, truD, truR, orTD, andTD, notTD, joinedD, glueD, lstRg, rg1, rg2, itRg1, itRg2, itSeq, itEn, dnewKD, newK, newL, maxKD, yesT, wipeA, cmpI, add_I, sub_I, negA, ok_bind, sizeLine_eq, Nat.reduceLeDiff, eq_I, isi_tup, isi_str, isi_int, isi_boo, len_tup, qlt, qle, qgt, qge, rg_if, ev_ok, ev_bind, ev_if, ev_call, es_nx, es_rt, es_seq, es_then, es_if, List.getElem?_cons_succ, List.getElem?_cons_zero, List.set_cons_succ, List.set_cons_zero, List.length_cons, List.length_nil, List.map_cons, List.map_nil, List.replicate, List.cons_append, List.nil_append, Option.bind_some, Option.map_some, Bool.not_true, Bool.not_false, Bool.false_eq_true, if_true, if_false, decide_true, decide_false, true_and, and_true, Nat.zero_add, Nat.add_zero, Nat.reduceAdd, Nat.reduceSub, reduceIte, Nat.sub_self, Nat.succ_sub_succ_eq_sub, Nat.add_one_sub_one, require_text_ok (show (S cs).length ≤ 3000 by rw [S_len]; exact hl), and_self]
  rintro s h' ⟨rfl, rfl⟩
  refine step_seq (fun s h2 => s = [some (.str (S cs)), some (.int (len : Int)), none, none, none, none] ∧ h = h2) ?_ ?_
  · simp only [seqD, raiseD, raiseVD, par3D, ex_bind, ev_ex, es_ex, ifD, retD, retND, dropD, setD, nextD, varD, conD, bin2, un1, testD, boolR, notT, andT, orT, ifE, andV, orV, notV, tupD, lstD, cbD, nilD, consD, asgD, parD, nameG, tupG, consG, nilG, setItD, augD, augItD, methD, forD, whileD, lcD, lc2D, sliceD, someD, noneD, chain3, truD, truR, orTD, andTD, notTD, joinedD, glueD, lstRg, rg1, rg2, itRg1, itRg2, itSeq, itEn, dnewKD, newK, newL, maxKD, yesT, wipeA, cmpI, add_I, sub_I, negA, ok_bind, sizeLine_eq, Nat.reduceLeDiff, eq_I, isi_tup, isi_str, isi_int, isi_boo, len_tup, qlt, qle, qgt, qge, rg_if, ev_ok, ev_bind, ev_if, ev_call, es_nx, es_rt, es_seq, es_then, es_if, List.getElem?_cons_succ, List.getElem?_cons_zero, List.set_cons_succ, List.set_cons_zero, List.length_cons, List.length_nil, List.map_cons, List.map_nil, List.replicate, List.cons_append, List.nil_append, Option.bind_some, Option.map_some, Bool.not_true, Bool.not_false, Bool.false_eq_true, if_true, if_false, decide_true, decide_false, true_and, and_true, Nat.zero_add, Nat.add_zero, Nat.reduceAdd, Nat.reduceSub, reduceIte, Nat.sub_self, Nat.succ_sub_succ_eq_sub, Nat.add_one_sub_one, require_within_ok (show (1 : Int) ≤ (len : Int) by omega) (show (len : Int) ≤ 60 by omega), and_self]
  rintro s h2 ⟨rfl, rfl⟩
  refine step_seq (fun s h3 => ∃ ts, termsT cs = .ok ts ∧ ts.length ≤ cs.length ∧ s = [some (.str (S cs)), some (.int (len : Int)), some (.ref h.length), none, none, none] ∧ Gm none h h3 ∧ h3[h.length]? = some (.lst (ts.map pairA))) ?_ ?_
  · by_cases h0 : cs = [48]
    · have et : termsT cs = .ok [] := by unfold termsT; rw [if_pos h0]
      simp only [seqD, raiseD, raiseVD, par3D, ex_bind, ev_ex, es_ex, ifD, retD, retND, dropD, setD, nextD, varD, conD, bin2, un1, testD, boolR, notT, andT, orT, ifE, andV, orV, notV, tupD, lstD, cbD, nilD, consD, asgD, parD, nameG, tupG, consG, nilG, setItD, augD, augItD, methD, forD, whileD, lcD, lc2D, sliceD, someD, noneD, chain3, truD, truR, orTD, andTD, notTD, joinedD, glueD, lstRg, rg1, rg2, itRg1, itRg2, itSeq, itEn, dnewKD, newK, newL, maxKD, yesT, wipeA, cmpI, add_I, sub_I, negA, ok_bind, sizeLine_eq, Nat.reduceLeDiff, eq_I, isi_tup, isi_str, isi_int, isi_boo, len_tup, qlt, qle, qgt, qge, rg_if, ev_ok, ev_bind, ev_if, ev_call, es_nx, es_rt, es_seq, es_then, es_if, List.getElem?_cons_succ, List.getElem?_cons_zero, List.set_cons_succ, List.set_cons_zero, List.length_cons, List.length_nil, List.map_cons, List.map_nil, List.replicate, List.cons_append, List.nil_append, Option.bind_some, Option.map_some, Bool.not_true, Bool.not_false, Bool.false_eq_true, if_true, if_false, decide_true, decide_false, true_and, and_true, Nat.zero_add, Nat.add_zero, Nat.reduceAdd, Nat.reduceSub, reduceIte, Nat.sub_self, Nat.succ_sub_succ_eq_sub, Nat.add_one_sub_one, c_lp, c_rp, c_sp, c_co, c_lb, c_rb, c_mi, c_pl, c_0, c_un, c_m0, c_em, c_sm, c_ss, c_fi, m_lp, m_rp, m_sp, m_co, m_lb, m_rb, m_mi, m_pl, m_0, m_un, m_m0, m_em, m_sm, m_ss, eq_S, hs, h0]
      refine ⟨[], by rw [← h0]; exact et, by simp, Gm.refl.app, get_app⟩
    · have et : termsT cs = termsR cs := by unfold termsT; rw [if_neg h0]
      simp only [seqD, raiseD, raiseVD, par3D, ex_bind, ev_ex, es_ex, ifD, retD, retND, dropD, setD, nextD, varD, conD, bin2, un1, testD, boolR, notT, andT, orT, ifE, andV, orV, notV, tupD, lstD, cbD, nilD, consD, asgD, parD, nameG, tupG, consG, nilG, setItD, augD, augItD, methD, forD, whileD, lcD, lc2D, sliceD, someD, noneD, chain3, truD, truR, orTD, andTD, notTD, joinedD, glueD, lstRg, rg1, rg2, itRg1, itRg2, itSeq, itEn, dnewKD, newK, newL, maxKD, yesT, wipeA, cmpI, add_I, sub_I, negA, ok_bind, sizeLine_eq, Nat.reduceLeDiff, eq_I, isi_tup, isi_str, isi_int, isi_boo, len_tup, qlt, qle, qgt, qge, rg_if, ev_ok, ev_bind, ev_if, ev_call, es_nx, es_rt, es_seq, es_then, es_if, List.getElem?_cons_succ, List.getElem?_cons_zero, List.set_cons_succ, List.set_cons_zero, List.length_cons, List.length_nil, List.map_cons, List.map_nil, List.replicate, List.cons_append, List.nil_append, Option.bind_some, Option.map_some, Bool.not_true, Bool.not_false, Bool.false_eq_true, if_true, if_false, decide_true, decide_false, true_and, and_true, Nat.zero_add, Nat.add_zero, Nat.reduceAdd, Nat.reduceSub, reduceIte, Nat.sub_self, Nat.succ_sub_succ_eq_sub, Nat.add_one_sub_one, c_lp, c_rp, c_sp, c_co, c_lb, c_rb, c_mi, c_pl, c_0, c_un, c_m0, c_em, c_sm, c_ss, c_fi, m_lp, m_rp, m_sp, m_co, m_lb, m_rb, m_mi, m_pl, m_0, m_un, m_m0, m_em, m_sm, m_ss, eq_S, hs, h0]
      have q := terms_at_E (h := h) hn hl hs
      revert q
      cases f_terms_at n [.str (S cs)] h with
      | ok a h3 =>
        rintro ⟨ts, e1, e2, rfl, gm, gp⟩
        exact ⟨ts, by rw [et]; exact e1, e2, rfl, gm, gp⟩
      | ex x h3 =>
        rintro ⟨⟨e, e1, e2⟩, gm⟩
        have er : kindsR cs len = .parse e := by unfold kindsR; rw [et, e1]
        rw [ev_ex, er]
        exact ⟨e2, gm⟩
      | no => exact fun z => z
  rintro s h3 ⟨ts, et, htl, rfl, gm3, gp3⟩
  have ek : kindsR cs len = if ts.any (fun q => decide (len ≤ q.2)) then .bad .kinds else if (sumK len ts).all goodB then .told (sumK len ts) else .bad .kinds := by unfold kindsR; rw [et]
  refine step_seq (fun s h4 => ts.any (fun q => decide (len ≤ q.2)) = false ∧ s = [some (.str (S cs)), some (.int (len : Int)), some (.ref h.length), none, none, none] ∧ Gm none h h4 ∧ h4[h.length]? = some (.lst (ts.map pairA))) ?_ ?_
  · simp only [seqD, raiseD, raiseVD, par3D, ex_bind, ev_ex, es_ex, ifD, retD, retND, dropD, setD, nextD, varD, conD, bin2, un1, testD, boolR, notT, andT, orT, ifE, andV, orV, notV, tupD, lstD, cbD, nilD, consD, asgD, parD, nameG, tupG, consG, nilG, setItD, augD, augItD, methD, forD, whileD, lcD, lc2D, sliceD, someD, noneD, chain3, truD, truR, orTD, andTD, notTD, joinedD, glueD, lstRg, rg1, rg2, itRg1, itRg2, itSeq, itEn, dnewKD, newK, newL, maxKD, yesT, wipeA, cmpI, add_I, sub_I, negA, ok_bind, sizeLine_eq, Nat.reduceLeDiff, eq_I, isi_tup, isi_str, isi_int, isi_boo, len_tup, qlt, qle, qgt, qge, rg_if, ev_ok, ev_bind, ev_if, ev_call, es_nx, es_rt, es_seq, es_then, es_if, List.getElem?_cons_succ, List.getElem?_cons_zero, List.set_cons_succ, List.set_cons_zero, List.length_cons, List.length_nil, List.map_cons, List.map_nil, List.replicate, List.cons_append, List.nil_append, Option.bind_some, Option.map_some, Bool.not_true, Bool.not_false, Bool.false_eq_true, if_true, if_false, decide_true, decide_false, true_and, and_true, Nat.zero_add, Nat.add_zero, Nat.reduceAdd, Nat.reduceSub, reduceIte, Nat.sub_self, Nat.succ_sub_succ_eq_sub, Nat.add_one_sub_one, gp3]
    refine lc_B (ys := ts) (G := fun q => .bl (decide (len ≤ q.2))) (by omega) (by omega) (fun j hj => ?_) ?_ ?_
    · refine ⟨pairA ts[j], [some (.str (S cs)), some (.int (len : Int)), some (.ref h.length), none, some (.int ts[j].1), some (.int (ts[j].2 : Int))], by unfold stepL; rw [gp3]; dsimp only; rw [List.getElem?_map, List.getElem?_eq_getElem hj]; rfl, rfl, ?_⟩
      have hd : decide ((len : Int) ≤ (ts[j].2 : Int)) = decide (len ≤ ts[j].2) := decide_eq_decide.mpr (by omega)
      simp only [bin2, varD, List.getElem?_cons_succ, List.getElem?_cons_zero, ok_bind, cmpI, qge, hd]
    · unfold stepL
      rw [gp3]
      dsimp only
      rw [List.getElem?_map, List.getElem?_eq_none (Nat.le_refl _)]; rfl
    · have e : (ts.map fun q => A.bl (decide (len ≤ q.2))) = (ts.map fun q => decide (len ≤ q.2)).map A.bl := by rw [List.map_map]; rfl
      have e3 : (ts.map fun q => decide (len ≤ q.2)).any id = ts.any (fun q => decide (len ≤ q.2)) := by rw [List.any_map]; rfl
      rw [e, any_B get_app, ev_ok, e3]
      cases hb : ts.any (fun q => decide (len ≤ q.2)) with
      | true =>
        rw [hb] at ek
        simp only [seqD, raiseD, raiseVD, par3D, ex_bind, ev_ex, es_ex, ifD, retD, retND, dropD, setD, nextD, varD, conD, bin2, un1, testD, boolR, notT, andT, orT, ifE, andV, orV, notV, tupD, lstD, cbD, nilD, consD, asgD, parD, nameG, tupG, consG, nilG, setItD, augD, augItD, methD, forD, whileD, lcD, lc2D, sliceD, someD, noneD, chain3, truD, truR, orTD, andTD, notTD, joinedD, glueD, lstRg, rg1, rg2, itRg1, itRg2, itSeq, itEn, dnewKD, newK, newL, maxKD, yesT, wipeA, cmpI, add_I, sub_I, negA, ok_bind, sizeLine_eq, Nat.reduceLeDiff, eq_I, isi_tup, isi_str, isi_int, isi_boo, len_tup, qlt, qle, qgt, qge, rg_if, ev_ok, ev_bind, ev_if, ev_call, es_nx, es_rt, es_seq, es_then, es_if, List.getElem?_cons_succ, List.getElem?_cons_zero, List.set_cons_succ, List.set_cons_zero, List.length_cons, List.length_nil, List.map_cons, List.map_nil, List.replicate, List.cons_append, List.nil_append, Option.bind_some, Option.map_some, Bool.not_true, Bool.not_false, Bool.false_eq_true, if_true, if_false, decide_true, decide_false, true_and, and_true, Nat.zero_add, Nat.add_zero, Nat.reduceAdd, Nat.reduceSub, reduceIte, Nat.sub_self, Nat.succ_sub_succ_eq_sub, Nat.add_one_sub_one]
        rw [ek]
        exact ⟨rfl, gm3.app⟩
      | false =>
        simp only [seqD, raiseD, raiseVD, par3D, ex_bind, ev_ex, es_ex, ifD, retD, retND, dropD, setD, nextD, varD, conD, bin2, un1, testD, boolR, notT, andT, orT, ifE, andV, orV, notV, tupD, lstD, cbD, nilD, consD, asgD, parD, nameG, tupG, consG, nilG, setItD, augD, augItD, methD, forD, whileD, lcD, lc2D, sliceD, someD, noneD, chain3, truD, truR, orTD, andTD, notTD, joinedD, glueD, lstRg, rg1, rg2, itRg1, itRg2, itSeq, itEn, dnewKD, newK, newL, maxKD, yesT, wipeA, cmpI, add_I, sub_I, negA, ok_bind, sizeLine_eq, Nat.reduceLeDiff, eq_I, isi_tup, isi_str, isi_int, isi_boo, len_tup, qlt, qle, qgt, qge, rg_if, ev_ok, ev_bind, ev_if, ev_call, es_nx, es_rt, es_seq, es_then, es_if, List.getElem?_cons_succ, List.getElem?_cons_zero, List.set_cons_succ, List.set_cons_zero, List.length_cons, List.length_nil, List.map_cons, List.map_nil, List.replicate, List.cons_append, List.nil_append, Option.bind_some, Option.map_some, Bool.not_true, Bool.not_false, Bool.false_eq_true, if_true, if_false, decide_true, decide_false, true_and, and_true, Nat.zero_add, Nat.add_zero, Nat.reduceAdd, Nat.reduceSub, reduceIte, Nat.sub_self, Nat.succ_sub_succ_eq_sub, Nat.add_one_sub_one]
        exact ⟨gm3.app, (Gm.refl (m := none)).app.get gp3⟩
  rintro s h4 ⟨hb, rfl, gm4, gp4⟩
  rw [hb] at ek
  simp only [Bool.false_eq_true, if_false] at ek
  have hps : ∀ q ∈ ts, q.2 < len := fun q hq => by
    have := List.any_eq_false.mp hb q hq
    simp at this
    exact this
  have hb4 := lt_of_get gp4
  refine step_seq (fun s h5 => ∃ p, s = [some (.str (S cs)), some (.int (len : Int)), some (.ref h.length), some (.ref p), none, none] ∧ Gm none h h5 ∧ h.length < p ∧ h5[h.length]? = some (.lst (ts.map pairA)) ∧ h5[p]? = some (.lst ((List.replicate len (0 : Int)).map A.int))) ?_ ?_
  · simp only [seqD, raiseD, raiseVD, par3D, ex_bind, ev_ex, es_ex, ifD, retD, retND, dropD, setD, nextD, varD, conD, bin2, un1, testD, boolR, notT, andT, orT, ifE, andV, orV, notV, tupD, lstD, cbD, nilD, consD, asgD, parD, nameG, tupG, consG, nilG, setItD, augD, augItD, methD, forD, whileD, lcD, lc2D, sliceD, someD, noneD, chain3, truD, truR, orTD, andTD, notTD, joinedD, glueD, lstRg, rg1, rg2, itRg1, itRg2, itSeq, itEn, dnewKD, newK, newL, maxKD, yesT, wipeA, cmpI, add_I, sub_I, negA, ok_bind, sizeLine_eq, Nat.reduceLeDiff, eq_I, isi_tup, isi_str, isi_int, isi_boo, len_tup, qlt, qle, qgt, qge, rg_if, ev_ok, ev_bind, ev_if, ev_call, es_nx, es_rt, es_seq, es_then, es_if, List.getElem?_cons_succ, List.getElem?_cons_zero, List.set_cons_succ, List.set_cons_zero, List.length_cons, List.length_nil, List.map_cons, List.map_nil, List.replicate, List.cons_append, List.nil_append, Option.bind_some, Option.map_some, Bool.not_true, Bool.not_false, Bool.false_eq_true, if_true, if_false, decide_true, decide_false, true_and, and_true, Nat.zero_add, Nat.add_zero, Nat.reduceAdd, Nat.reduceSub, reduceIte, Nat.sub_self, Nat.succ_sub_succ_eq_sub, Nat.add_one_sub_one]
    rw [rep0 get_app (by omega), newL, ev_ok]
    refine ⟨_, rfl, gm4.app.app, by rw [List.length_append]; omega, ?_, get_app⟩
    exact (Gm.refl (m := none)).app.app.get gp4
  rintro s h5 ⟨p, rfl, gm5, hp, gp5, gf5⟩
  refine step_seq (fun s h6 => (∃ a b, s = [some (.str (S cs)), some (.int (len : Int)), some (.ref h.length), some (.ref p), a, b]) ∧ Gm none h h6 ∧ h6[p]? = some (.lst ((sumK len ts).map A.int))) ?_ ?_
  · simp only [forD, itSeq, seqD, raiseD, raiseVD, par3D, ex_bind, ev_ex, es_ex, ifD, retD, retND, dropD, setD, nextD, varD, conD, bin2, un1, testD, boolR, notT, andT, orT, ifE, andV, orV, notV, tupD, lstD, cbD, nilD, consD, asgD, parD, nameG, tupG, consG, nilG, setItD, augD, augItD, methD, forD, whileD, lcD, lc2D, sliceD, someD, noneD, chain3, truD, truR, orTD, andTD, notTD, joinedD, glueD, lstRg, rg1, rg2, itRg1, itRg2, itSeq, itEn, dnewKD, newK, newL, maxKD, yesT, wipeA, cmpI, add_I, sub_I, negA, ok_bind, sizeLine_eq, Nat.reduceLeDiff, eq_I, isi_tup, isi_str, isi_int, isi_boo, len_tup, qlt, qle, qgt, qge, rg_if, ev_ok, ev_bind, ev_if, ev_call, es_nx, es_rt, es_seq, es_then, es_if, List.getElem?_cons_succ, List.getElem?_cons_zero, List.set_cons_succ, List.set_cons_zero, List.length_cons, List.length_nil, List.map_cons, List.map_nil, List.replicate, List.cons_append, List.nil_append, Option.bind_some, Option.map_some, Bool.not_true, Bool.not_false, Bool.false_eq_true, if_true, if_false, decide_true, decide_false, true_and, and_true, Nat.zero_add, Nat.add_zero, Nat.reduceAdd, Nat.reduceSub, reduceIte, Nat.sub_self, Nat.succ_sub_succ_eq_sub, Nat.add_one_sub_one, gp5]
    refine for_l (xs := ts.map pairA) (by rw [List.length_map]; omega) (fun j s h6 => (∃ a b, s = [some (.str (S cs)), some (.int (len : Int)), some (.ref h.length), some (.ref p), a, b]) ∧ Gm none h h6 ∧ h6[h.length]? = some (.lst (ts.map pairA)) ∧ h6[p]? = some (.lst (((ts.take j).foldl addK (List.replicate len 0)).map A.int))) ⟨⟨_, _, rfl⟩, gm5, gp5, gf5⟩ (fun j s h6 z => z.2.2.1) ?_ ?_
    · rintro j s h6 hj ⟨⟨a, b, rfl⟩, gm6, gp6, gf6⟩
      rw [List.length_map] at hj
      have hq := hps ts[j] (List.getElem_mem hj)
      refine ⟨[some (.str (S cs)), some (.int (len : Int)), some (.ref h.length), some (.ref p), some (.int ts[j].1), some (.int (ts[j].2 : Int))], by rw [List.getElem_map]; rfl, ?_⟩
      refine aug_step (p := p) (i := ts[j].2) (v := ts[j].1) rfl rfl rfl gf6 (by rw [foldK_len, List.length_replicate]; exact hq) (by omega) ?_
      refine ⟨⟨_, _, rfl⟩, gm6.set (.inl (by omega)), ?_, ?_⟩
      · rw [List.getElem?_set_ne (by omega)]; exact gp6
      · rw [get_set gf6, take_snoc hj, List.foldl_append]
        rfl
    · rintro s h6 ⟨⟨a, b, rfl⟩, gm6, gp6, gf6⟩
      rw [List.length_map, List.take_length] at gf6
      exact ⟨⟨_, _, rfl⟩, gm6, gf6⟩
  rintro s h6 ⟨⟨a, b, rfl⟩, gm6, gf6⟩
  have hsl := sumK_len len ts
  refine step_seq (fun s h7 => (sumK len ts).all goodB = true ∧ (∃ a b, s = [some (.str (S cs)), some (.int (len : Int)), some (.ref h.length), some (.ref p), a, b]) ∧ Gm none h h7 ∧ h7[p]? = some (.lst ((sumK len ts).map A.int))) ?_ ?_
  · simp only [seqD, raiseD, raiseVD, par3D, ex_bind, ev_ex, es_ex, ifD, retD, retND, dropD, setD, nextD, varD, conD, bin2, un1, testD, boolR, notT, andT, orT, ifE, andV, orV, notV, tupD, lstD, cbD, nilD, consD, asgD, parD, nameG, tupG, consG, nilG, setItD, augD, augItD, methD, forD, whileD, lcD, lc2D, sliceD, someD, noneD, chain3, truD, truR, orTD, andTD, notTD, joinedD, glueD, lstRg, rg1, rg2, itRg1, itRg2, itSeq, itEn, dnewKD, newK, newL, maxKD, yesT, wipeA, cmpI, add_I, sub_I, negA, ok_bind, sizeLine_eq, Nat.reduceLeDiff, eq_I, isi_tup, isi_str, isi_int, isi_boo, len_tup, qlt, qle, qgt, qge, rg_if, ev_ok, ev_bind, ev_if, ev_call, es_nx, es_rt, es_seq, es_then, es_if, List.getElem?_cons_succ, List.getElem?_cons_zero, List.set_cons_succ, List.set_cons_zero, List.length_cons, List.length_nil, List.map_cons, List.map_nil, List.replicate, List.cons_append, List.nil_append, Option.bind_some, Option.map_some, Bool.not_true, Bool.not_false, Bool.false_eq_true, if_true, if_false, decide_true, decide_false, true_and, and_true, Nat.zero_add, Nat.add_zero, Nat.reduceAdd, Nat.reduceSub, reduceIte, Nat.sub_self, Nat.succ_sub_succ_eq_sub, Nat.add_one_sub_one, tuple_ref gf6]
    refine (are_integers_E hn (by omega) (by omega)).mono fun a h7 q => ?_
    obtain ⟨rfl, g7⟩ := q
    cases hg : (sumK len ts).all goodB with
    | true =>
      simp only [seqD, raiseD, raiseVD, par3D, ex_bind, ev_ex, es_ex, ifD, retD, retND, dropD, setD, nextD, varD, conD, bin2, un1, testD, boolR, notT, andT, orT, ifE, andV, orV, notV, tupD, lstD, cbD, nilD, consD, asgD, parD, nameG, tupG, consG, nilG, setItD, augD, augItD, methD, forD, whileD, lcD, lc2D, sliceD, someD, noneD, chain3, truD, truR, orTD, andTD, notTD, joinedD, glueD, lstRg, rg1, rg2, itRg1, itRg2, itSeq, itEn, dnewKD, newK, newL, maxKD, yesT, wipeA, cmpI, add_I, sub_I, negA, ok_bind, sizeLine_eq, Nat.reduceLeDiff, eq_I, isi_tup, isi_str, isi_int, isi_boo, len_tup, qlt, qle, qgt, qge, rg_if, ev_ok, ev_bind, ev_if, ev_call, es_nx, es_rt, es_seq, es_then, es_if, List.getElem?_cons_succ, List.getElem?_cons_zero, List.set_cons_succ, List.set_cons_zero, List.length_cons, List.length_nil, List.map_cons, List.map_nil, List.replicate, List.cons_append, List.nil_append, Option.bind_some, Option.map_some, Bool.not_true, Bool.not_false, Bool.false_eq_true, if_true, if_false, decide_true, decide_false, true_and, and_true, Nat.zero_add, Nat.add_zero, Nat.reduceAdd, Nat.reduceSub, reduceIte, Nat.sub_self, Nat.succ_sub_succ_eq_sub, Nat.add_one_sub_one]
      exact ⟨⟨_, _, rfl⟩, gm6.trans g7, g7.get gf6⟩
    | false =>
      rw [hg] at ek
      simp only [Bool.false_eq_true, if_false] at ek
      simp only [seqD, raiseD, raiseVD, par3D, ex_bind, ev_ex, es_ex, ifD, retD, retND, dropD, setD, nextD, varD, conD, bin2, un1, testD, boolR, notT, andT, orT, ifE, andV, orV, notV, tupD, lstD, cbD, nilD, consD, asgD, parD, nameG, tupG, consG, nilG, setItD, augD, augItD, methD, forD, whileD, lcD, lc2D, sliceD, someD, noneD, chain3, truD, truR, orTD, andTD, notTD, joinedD, glueD, lstRg, rg1, rg2, itRg1, itRg2, itSeq, itEn, dnewKD, newK, newL, maxKD, yesT, wipeA, cmpI, add_I, sub_I, negA, ok_bind, sizeLine_eq, Nat.reduceLeDiff, eq_I, isi_tup, isi_str, isi_int, isi_boo, len_tup, qlt, qle, qgt, qge, rg_if, ev_ok, ev_bind, ev_if, ev_call, es_nx, es_rt, es_seq, es_then, es_if, List.getElem?_cons_succ, List.getElem?_cons_zero, List.set_cons_succ, List.set_cons_zero, List.length_cons, List.length_nil, List.map_cons, List.map_nil, List.replicate, List.cons_append, List.nil_append, Option.bind_some, Option.map_some, Bool.not_true, Bool.not_false, Bool.false_eq_true, if_true, if_false, decide_true, decide_false, true_and, and_true, Nat.zero_add, Nat.add_zero, Nat.reduceAdd, Nat.reduceSub, reduceIte, Nat.sub_self, Nat.succ_sub_succ_eq_sub, Nat.add_one_sub_one]
      rw [ek]
      exact ⟨rfl, gm6.trans g7⟩
  rintro s h7 ⟨hg, ⟨a, b, rfl⟩, gm7, gf7⟩
  rw [hg] at ek
  simp only [if_true] at ek
  simp only [seqD, raiseD, raiseVD, par3D, ex_bind, ev_ex, es_ex, ifD, retD, retND, dropD, setD, nextD, varD, conD, bin2, un1, testD, boolR, notT, andT, orT, ifE, andV, orV, notV, tupD, lstD, cbD, nilD, consD, asgD, parD, nameG, tupG, consG, nilG, setItD, augD, augItD, methD, forD, whileD, lcD, lc2D, sliceD, someD, noneD, chain3, truD, truR, orTD, andTD, notTD, joinedD, glueD, lstRg, rg1, rg2, itRg1, itRg2, itSeq, itEn, dnewKD, newK, newL, maxKD, yesT, wipeA, cmpI, add_I, sub_I, negA, ok_bind, sizeLine_eq, Nat.reduceLeDiff, eq_I, isi_tup, isi_str, isi_int, isi_boo, len_tup, qlt, qle, qgt, qge, rg_if, ev_ok, ev_bind, ev_if, ev_call, es_nx, es_rt, es_seq, es_then, es_if, List.getElem?_cons_succ, List.getElem?_cons_zero, List.set_cons_succ, List.set_cons_zero, List.length_cons, List.length_nil, List.map_cons, List.map_nil, List.replicate, List.cons_append, List.nil_append, Option.bind_some, Option.map_some, Bool.not_true, Bool.not_false, Bool.false_eq_true, if_true, if_false, decide_true, decide_false, true_and, and_true, Nat.zero_add, Nat.add_zero, Nat.reduceAdd, Nat.reduceSub, reduceIte, Nat.sub_self, Nat.succ_sub_succ_eq_sub, Nat.add_one_sub_one, tuple_ref gf7]
  rw [ek]
  exact ⟨rfl, gm7⟩
theorem ev_ifE {X : Xn → Hs → Prop} {t : DT} {f g : DE} {n : Nat} {s : Sl} {h : Hs} {Q : A → Hs → Prop} : Ev X (ifE t f g n s h) Q = Ev X (t n s h) fun b h1 => if b then Ev X (f n s h1) Q else Ev X (g n s h1) Q := by
  unfold ifE
  rw [ev_bind]
  congr 1
  funext b h1
  cases b <;> rfl
theorem ev_lc {X : Xn → Hs → Prop} {it : DI} {g : DG} {t : DT} {e : DE} {vs : List Nat} {n : Nat} {s : Sl} {h : Hs} {Q : A → Hs → Prop} (q : Ev X (it n s h) fun st h1 => Ev X (lcL st g t e n n 0 [] (wipeA s vs) h1) fun xs h2 => Q (.ref h2.length) (h2 ++ [.lst xs])) : Ev X (lcD it g t e vs n s h) Q := by
  unfold lcD
  rw [ev_bind]
  refine q.mono fun st h1 z => ?_
  rw [ev_bind]
  exact z.mono fun xs h2 y => y
def natA (x : Nat) : A := .int (x : Int)
def at0 (q : List Nat) (i : Nat) : Nat := q.getD i 0
theorem toDs_map {β : Type} {F : β → A} {D : β → PyData} {f : Nat → Option PyData} : ∀ (ys : List β), (∀ y ∈ ys, toDw f (F y) = some (D y)) → toDws f (ys.map F) = some (ys.map D)
  | [], _ => rfl
  | y :: ys, h => by
    rw [List.map_cons, toDws, h y List.mem_cons_self, toDs_map ys fun z hz => h z (List.mem_cons_of_mem _ hz)]
    rfl
theorem lay_map {β : Type} {D : β → PyData} {k : Nat} : ∀ (ys : List β), (∀ y ∈ ys, (D y).canLay0 = true ∧ (D y).depth ≤ k) → PyData.canLayAll0 (ys.map D) = true ∧ PyData.depthAll (ys.map D) ≤ k
  | [], _ => ⟨rfl, Nat.zero_le _⟩
  | y :: ys, h => by
    obtain ⟨h1, h2⟩ := h y List.mem_cons_self
    obtain ⟨i1, i2⟩ := lay_map ys fun z hz => h z (List.mem_cons_of_mem _ hz)
    refine ⟨by rw [List.map_cons, PyData.canLayAll0, h1, i1]; rfl, ?_⟩
    rw [List.map_cons, PyData.depthAll]
    omega
theorem shaped_list {ds : List PyData} {k : Nat} (h : PyData.canLayAll0 ds = true ∧ PyData.depthAll ds ≤ k) (hk : k ≤ 60) : SeqAt.shaped (.list ds) = true := by
  unfold SeqAt.shaped
  rw [PyData.canLay0, h.1, PyData.depth]
  simp
  omega
theorem eq_refl {neg : Bool} {a b : A} {d : PyData} {h : Hs} (e1 : toD h a = some d) (e2 : toD h b = some d) (hd : SeqAt.shaped d = true) : eqA neg a b h = .ok (.bl (!neg)) h := by
  have q : PyData.eqv d d = true := by
    unfold SeqAt.shaped at hd
    rw [Bool.and_eq_true] at hd
    exact SeqAt.eqv_refl d hd.1
  unfold eqA
  rw [e1, e2]
  dsimp only
  rw [hd, Bool.and_self, if_pos rfl, q]
  cases neg <;> rfl
def tell1 (r l : List Nat) (i : Nat) : List Nat := l.set (at0 r i) (at0 r ((i + 1) % r.length))
def tellR (l r : List Nat) : List Nat := (List.range r.length).foldl (tell1 r) l
def told (places : Nat) (Rs : List (List Nat)) : List Nat := Rs.foldl tellR (List.range places)
theorem in_list {F : List Nat} {x p : Nat} {h : Hs} (e : h[p]? = some (.lst (F.map natA))) : inA false (.int (x : Int)) (.ref p) h = .ok (.bl (decide (x ∈ F))) h := by
  have e1 : isDict h (.ref p) = false := by unfold isDict; dsimp only; rw [e]
  have e3 : flatsA (F.map natA) = some (F.map fun (y : Nat) => L2.V.int (y : Int)) := by
    clear e e1
    induction F with
    | nil => rfl
    | cons y F ih => rw [List.map_cons, flatsA, ih]; rfl
  have e4 : L2.inV (.int (x : Int)) (F.map fun (y : Nat) => L2.V.int (y : Int)) = decide (x ∈ F) := by
    clear e e1 e3
    unfold L2.inV
    induction F with
    | nil => rfl
    | cons y F ih =>
      rw [List.map_cons, List.any_cons, ih]
      by_cases z : y = x
      · subst z
        simp [L2.eqV]
      · have z2 : ¬ ((y : Int) = (x : Int)) := by omega
        simp [L2.eqV, z2, Ne.symm z]
  unfold inA
  rw [e1]
  simp only [Bool.false_eq_true, if_false]
  unfold inSeq
  have e5 : (seqOf h (.ref p)).bind flatsA = some (F.map fun (y : Nat) => L2.V.int (y : Int)) := by rw [seqOf_ref e]; exact e3
  show (match flatA (.int (x : Int)), (seqOf h (.ref p)).bind flatsA with
    | some x, some xs => R.ok (A.bl (if false then !L2.inV x xs else L2.inV x xs)) h
    | _, _ => .no) = _
  rw [e5, show flatA (.int (x : Int)) = some (.int (x : Int)) from rfl]
  dsimp only
  rw [e4]
  rfl
theorem S_cat (a b : List Nat) : S a ++ S b = S (a ++ b) := SX.S_cat a b
theorem add_Sif {a b : List Nat} {h : Hs} : addA (.str (S a)) (.str (S b)) h = if a.length + b.length ≤ 16777216 then .ok (.str (S (a ++ b))) h else .no := by
  unfold addA
  dsimp only
  rw [S_len, S_len, sizeLine_eq, S_cat]
structure Tm where
  neg : Bool
  bare : Bool
  m : Nat
  i : Nat
def Tm.ok (t : Tm) : Prop := (t.bare = true → t.m = 1) ∧ t.m < 1000000000000000000000000000000000000000000000000000000000000 ∧ t.i < 60
theorem ev_rg1 {X : Xn → Hs → Prop} {ft : DA} {n m : Nat} {s : Sl} {h : Hs} {Q : Step → Hs → Prop} (hm : m < 1000000) (q : Ev X (ft n s h) fun as h1 => as = [.int (m : Int)] ∧ Q (stepR 0 m) h1) : Ev X (itRg1 ft n s h) Q := by
  unfold itRg1
  rw [ev_bind]
  refine q.mono fun as h1 z => ?_
  obtain ⟨rfl, z⟩ := z
  dsimp only
  rw [if_pos (by omega : (m : Int).natAbs < 2 ^ 62), Int.toNat_natCast]
  exact z
theorem add_L {p r : Nat} {xs ys : List A} {h : Hs} (e1 : h[p]? = some (.lst xs)) (e2 : h[r]? = some (.lst ys)) (hl : xs.length + ys.length ≤ 16777216) : addA (.ref p) (.ref r) h = newL (xs ++ ys) h := by
  have q1 : lstOf h (.ref p) = some xs := by unfold lstOf; dsimp only; rw [e1]
  have q2 : lstOf h (.ref r) = some ys := by unfold lstOf; dsimp only; rw [e2]
  unfold addA
  dsimp only
  rw [q1, q2]
  dsimp only
  rw [if_pos (small_line hl)]
theorem pow585 {h : Hs} : ∃ t : Int, 0 < t ∧ intA powI (.int 10) (.int 45) h = .ok (.int 1000000000000000000000000000000000000000000000) h ∧ intA powI (.int 1000000000000000000000000000000000000000000000) (.int 13) h = .ok (.int t) h := by
  have e1 : powI 10 45 = some 1000000000000000000000000000000000000000000000 := by decide +kernel
  have e2 : powI 1000000000000000000000000000000000000000000000 13 = some (1000000000000000000000000000000000000000000000 ^ 13) := by decide +kernel
  refine ⟨1000000000000000000000000000000000000000000000 ^ 13, by decide +kernel, ?_, ?_⟩
  · unfold intA
    dsimp only
    rw [e1]
  · unfold intA
    dsimp only
    rw [e2]
theorem pow18 {h : Hs} : intA powI (.int 10) (.int 18) h = .ok (.int 1000000000000000000) h := by
  have e1 : powI 10 18 = some 1000000000000000000 := by decide +kernel
  unfold intA
  dsimp only
  rw [e1]
theorem mul_pos {i j : Int} {h : Hs} (h0 : 0 ≤ i) (hi : i ≤ 2305843009213700000) (g0 : 0 ≤ j) (hj : j ≤ 2305843009213700000) : mulA (.int i) (.int j) h = .ok (.int (i * j)) h :=
  mul_I (by have := log_small h0 hi; have := log_small g0 hj; omega)
/-- v reads as the script ns -/
structure Scr (h : Hs) (v : A) (ns : List Int) : Prop where
  len : bLen [v] h = .ok (.int (ns.length : Int)) h
  ix : ∀ (i : Nat) (hi : i < ns.length), ixA v (.int (i : Int)) h = .ok (.int ns[i]) h
  sl : slA v none (some 1) h = newL ((ns.take 1).map A.int) h
theorem cut1 (ns : List Int) : cutA (ns.map A.int) none (some 1) = (ns.take 1).map A.int := by
  unfold cutA
  rw [HT.sIx_none, show (1 : Int) = ((1 : Nat) : Int) from rfl, HT.sIx_nat, List.drop_zero, Nat.sub_zero, List.map_take]
  by_cases hl : 1 ≤ (ns.map A.int).length
  · rw [Nat.min_eq_left hl]
  · rw [List.take_of_length_le (by omega), List.take_of_length_le (by omega)]
theorem Scr.rol {h : Hs} {ns : List Int} : Scr h (.rol (ns.map A.int)) ns := by
  refine ⟨?_, fun i hi => ?_, ?_⟩
  · show R.ok (A.int (((ns.map A.int).length : Nat) : Int)) h = _
    rw [List.length_map]
  · have e : L2.atI (ns.map A.int) (i : Int) = some (.int ns[i]) := L2.atI_nat (by rw [List.getElem?_map, List.getElem?_eq_getElem hi]; rfl)
    unfold ixA
    rw [if_neg (by simp [isDict])]
    show (match some (ns.map A.int) with | some xs => (match L2.atI xs (i : Int) with | some c => R.ok c h | none => .no) | none => .no) = _
    dsimp only
    rw [e]
  · show newL (cutA (ns.map A.int) none (some 1)) h = _
    rw [cut1]
theorem Scr.ref {h : Hs} {ns : List Int} {p : Nat} (e : h[p]? = some (.lst (ns.map A.int))) : Scr h (.ref p) ns := by
  refine ⟨?_, fun i hi => ?_, ?_⟩
  · rw [len_ref e, List.length_map]
  · exact ix_ref e (atI_n (by rw [List.getElem?_map, List.getElem?_eq_getElem hi]; rfl))
  · unfold slA
    dsimp only
    rw [lsOf_ref e]
    dsimp only
    rw [cut1]
theorem law_bag_V {X : Xn → Hs → Prop} {n i : Nat} {h : Hs} {ns : List Int} {v : A} (V : Scr h v ns) (hi : i < 10) :
    Ev X (f__law_bag n [v, .int (i : Int)] h) fun a h' => ∃ b, a = .ref b ∧ Bag h' b 0 ∧ Gm none h h' ∧ h.length ≤ b := by
  refine ev_body rfl ?_
  unfold d__law_bag
  refine step_seq (fun s h' => ∃ c : Int, s = [some (v), some (.int (i : Int)), some (.int c), none, none] ∧ Gm none h h') ?_ ?_
  · refine es_set ?_
    unfold ifE
    rw [ev_bind]
    have et : testD (bin2 (cmpI qlt) (varD 1) (cbD bLen (consD (varD 0) nilD))) n [some v, some (.int (i : Int)), none, none, none] h = .ok (decide ((i : Int) < (ns.length : Int))) h := by
      show boolR (R.bind (bLen [v] h) fun b h2 => cmpI qlt (.int (i : Int)) b h2) = _
      rw [V.len]
      rfl
    show Ev _ (testD (bin2 (cmpI qlt) (varD 1) (cbD bLen (consD (varD 0) nilD))) n [some v, some (.int (i : Int)), none, none, none] h) _
    rw [et, ev_ok]
    by_cases hz : i < ns.length
    · rw [decide_eq_true (by omega : (i : Int) < (ns.length : Int)), if_pos rfl, ev_bin2]
      show Ev _ (R.ok v h) _
      rw [ev_ok]
      show Ev _ (R.ok (A.int (i : Int)) h) _
      rw [ev_ok, V.ix i hz, ev_ok]
      exact ⟨_, rfl, Gm.refl⟩
    · rw [decide_eq_false (by omega : ¬ (i : Int) < (ns.length : Int))]
      simp only [Bool.false_eq_true, if_false]
      rw [ev_bin2, ev_bin2, ev_cb1]
      have e : sliceD (varD 0) noneD (someD (conD (.int 1))) n [some v, some (.int (i : Int)), none, none, none] h = newL ((ns.take 1).map A.int) h := by
        show slA v none (some 1) h = _
        exact V.sl
      show Ev _ (sliceD (varD 0) noneD (someD (conD (.int 1))) n [some v, some (.int (i : Int)), none, none, none] h) _
      rw [e, newL, ev_ok]
      have e2 : bSum [.ref h.length] (h ++ [.lst ((ns.take 1).map A.int)]) = .ok (.int (ns.take 1).sum) (h ++ [.lst ((ns.take 1).map A.int)]) := by
        unfold bSum
        dsimp only
        rw [show (lsOf (h ++ [AO.lst ((ns.take 1).map A.int)]) (A.ref h.length)).bind intsOf = some (ns.take 1) by rw [lsOf_ref get_app]; exact ints_I _]
      rw [e2, ev_ok, ev_bin2]
      show Ev _ (R.ok (A.int 151) _) _
      rw [ev_ok]
      show Ev _ (R.ok (A.int (i : Int)) _) _
      rw [ev_ok, mul_pos (by decide) (by decide) (by omega) (by omega), ev_ok]
      show Ev _ (R.ok (A.int _) _) _
      rw [ev_ok]
      show Ev _ (R.ok (A.int 89) _) _
      rw [ev_ok]
      show Ev _ (R.ok (A.int _) _) _
      rw [ev_ok]
      exact ⟨_, rfl, Gm.refl.app⟩
  rintro s h1 ⟨c, rfl, g1⟩
  refine step_seq (fun s h' => ∃ d : Int, 0 ≤ d ∧ s = [some (v), some (.int (i : Int)), some (.int c), some (.int d), none] ∧ h' = h1) ?_ ?_
  · refine es_set ?_
    rw [ev_bin2, ev_cb1, ev_cb1]
    show Ev _ (R.ok (A.int c) h1) _
    rw [ev_ok, abs_I, ev_ok, int_I, ev_ok, ev_bin2, ev_bin2]
    obtain ⟨t, ht, p1, p2⟩ := pow585 (h := h1)
    show Ev _ (R.ok (A.int 10) h1) _
    rw [ev_ok]
    show Ev _ (R.ok (A.int 45) h1) _
    rw [ev_ok, p1, ev_ok]
    show Ev _ (R.ok (A.int 13) h1) _
    rw [ev_ok, p2, ev_ok, mod_I ht, ev_ok]
    exact ⟨_, Int.emod_nonneg _ (by omega), rfl, rfl⟩
  rintro s h2 ⟨d, hd, rfl, rfl⟩
  refine step_seq (fun s h' => ∃ e : Int, s = [some (v), some (.int (i : Int)), some (.int c), some (.int d), some (.int e)] ∧ h' = h2) ?_ ?_
  · refine es_set ?_
    rw [ev_bin2, ev_bin2, ev_bin2, ev_bin2, ev_bin2, ev_cb1]
    show Ev _ (R.ok (A.int d) h2) _
    rw [ev_ok, int_I, ev_ok]
    show Ev _ (R.ok (A.int 2305843009213693723) h2) _
    have m0 := Int.emod_nonneg d (show (2305843009213693723 : Int) ≠ 0 by decide)
    have m1 := Int.emod_lt_of_pos d (show (0 : Int) < 2305843009213693723 by decide)
    rw [ev_ok, mod_I (by decide), ev_ok]
    show Ev _ (R.ok (A.int 1000457) h2) _
    rw [ev_ok, mul_pos m0 (by omega) (by decide) (by decide), ev_ok, ev_bin2]
    show Ev _ (R.ok (A.int 9029) h2) _
    rw [ev_ok]
    show Ev _ (R.ok (A.int (i : Int)) h2) _
    rw [ev_ok, mul_pos (by decide) (by decide) (by omega) (by omega), ev_ok]
    show Ev _ (R.ok (A.int _) h2) _
    rw [ev_ok, ev_bin2]
    show Ev _ (R.ok (A.int 53) h2) _
    rw [ev_ok, ev_cb1]
    show Ev _ (R.ok (A.bl (decide (c < 0))) h2) _
    rw [ev_ok, int_B, ev_ok, mul_pos (by decide) (by decide) (by split <;> decide) (by split <;> decide), ev_ok]
    show Ev _ (R.ok (A.int _) h2) _
    rw [ev_ok]
    show Ev _ (R.ok (A.int 37) h2) _
    rw [ev_ok]
    show Ev _ (R.ok (A.int _) h2) _
    rw [ev_ok]
    exact ⟨_, rfl, rfl⟩
  rintro s h3 ⟨e, rfl, rfl⟩
  refine es_ret ?_
  have e1 : bin2 (intA subI) (varD 3) (bin2 (intA powI) (conD (.int 10)) (conD (.int 18))) n [some (v), some (.int (i : Int)), some (.int c), some (.int d), some (.int e)] h3 = .ok (.int (d - 1000000000000000000)) h3 := by
    show (R.ok (A.int d) h3).bind (fun a h1 => ((intA powI (.int 10) (.int 18) h1)).bind fun b h2 => intA subI a b h2) = _
    rw [ok_bind, pow18, ok_bind, sub_I]
  have e2 : ∃ u : Int, 0 ≤ u ∧ cbD bMax (consD (conD (.int 0)) (consD (bin2 (intA subI) (varD 3) (bin2 (intA powI) (conD (.int 10)) (conD (.int 18)))) nilD)) n [some (v), some (.int (i : Int)), some (.int c), some (.int d), some (.int e)] h3 = .ok (.int u) h3 := by
    refine ⟨if d - 1000000000000000000 > 0 then d - 1000000000000000000 else 0, by split <;> omega, ?_⟩
    unfold cbD consD
    rw [show ∀ s h, conD (A.int 0) n s h = R.ok (A.int 0) h from fun _ _ => rfl, ok_bind, e1]
    rfl
  obtain ⟨u, hu, e2⟩ := e2
  have e3 : cbD bInt (consD (varD 4) nilD) n [some (v), some (.int (i : Int)), some (.int c), some (.int d), some (.int e)] h3 = .ok (.int e) h3 := rfl
  have e4 : bin2 (intA modI) (cbD bInt (consD (varD 4) nilD)) (conD (.int 2305843009213693951)) n [some (v), some (.int (i : Int)), some (.int c), some (.int d), some (.int e)] h3 = .ok (.int (e % 2305843009213693951)) h3 := by
    unfold bin2
    rw [e3, ok_bind]
    show intA modI (.int e) (.int 2305843009213693951) h3 = _
    rw [mod_I (by decide)]
  have e5 : lstD (consD (cbD bMax (consD (conD (.int 0)) (consD (bin2 (intA subI) (varD 3) (bin2 (intA powI) (conD (.int 10)) (conD (.int 18)))) nilD))) (consD (bin2 (intA modI) (cbD bInt (consD (varD 4) nilD)) (conD (.int 2305843009213693951))) (consD (conD (.int 0)) nilD))) n [some (v), some (.int (i : Int)), some (.int c), some (.int d), some (.int e)] h3 = newL [.int u, .int (e % 2305843009213693951), .int 0] h3 := by
    unfold lstD
    have e6 : consD (cbD bMax (consD (conD (.int 0)) (consD (bin2 (intA subI) (varD 3) (bin2 (intA powI) (conD (.int 10)) (conD (.int 18)))) nilD))) (consD (bin2 (intA modI) (cbD bInt (consD (varD 4) nilD)) (conD (.int 2305843009213693951))) (consD (conD (.int 0)) nilD)) n [some (v), some (.int (i : Int)), some (.int c), some (.int d), some (.int e)] h3 = .ok [.int u, .int (e % 2305843009213693951), .int 0] h3 := by
      rw [consD, e2, ok_bind, consD, e4, ok_bind]
      rfl
    rw [e6, ok_bind, if_pos (small_line (by simp))]
  rw [e5, newL, ev_ok]
  have m0 := Int.emod_nonneg e (show (2305843009213693951 : Int) ≠ 0 by decide)
  have m1 := Int.emod_lt_of_pos e (show (0 : Int) < 2305843009213693951 by decide)
  exact ⟨_, rfl, ⟨u, e % 2305843009213693951, 0, get_app, hu, m0, m1, Int.le_refl _, Int.le_refl _⟩, g1.app, g1.1⟩
theorem Bag.ne_tab {h : Hs} {b k i : Nat} {P : Addr} {q : Str} (B : Bag h b k) (ht : h[i]? = some (.tab P q)) : i ≠ b := by
  rintro rfl
  obtain ⟨x, y, z, e, _⟩ := B
  rw [ht] at e
  cases e
theorem itRg_var {X : Xn → Hs → Prop} {n m : Nat} {s : Sl} {h : Hs} {Q : Step → Hs → Prop} {i : Nat} (hs : s[i]? = some (some (.int (m : Int)))) (hm : m < 1000000) (q : Q (stepR 0 m) h) : Ev X (itRg1 (consD (varD i) nilD) n s h) Q := by
  refine ev_rg1 (m := m) hm ?_
  have e : consD (varD i) nilD n s h = .ok [.int (m : Int)] h := by
    unfold consD varD nilD
    rw [hs]
    rfl
  rw [e, ev_ok]
  exact ⟨rfl, q⟩
theorem ev_cons1 {X : Xn → Hs → Prop} {f : DE} {n : Nat} {s : Sl} {h : Hs} {Q : List A → Hs → Prop} : Ev X (consD f nilD n s h) Q = Ev X (f n s h) fun a h1 => Q [a] h1 := by
  unfold consD nilD
  rw [ev_bind]
  rfl
theorem ev_lst {X : Xn → Hs → Prop} {f : DA} {n : Nat} {s : Sl} {h : Hs} {Q : A → Hs → Prop} (q : Ev X (f n s h) fun as h1 => as.length ≤ 1000 ∧ Q (.ref h1.length) (h1 ++ [.lst as])) : Ev X (lstD f n s h) Q := by
  unfold lstD
  rw [ev_bind]
  refine q.mono fun as h1 z => ?_
  rw [if_pos (small_line (by have := z.1; omega)), newL, ev_ok]
  exact z.2
theorem eq_same {neg : Bool} {L : List A} {p q : Nat} {h : Hs} {ds : List PyData} (e1 : h[p]? = some (.lst L)) (e2 : h[q]? = some (.lst L)) (hd : ∀ f, toDws f L = some ds) (sh : SeqAt.shaped (.list ds) = true) : eqA neg (.ref p) (.ref q) h = .ok (.bl (!neg)) h := by
  refine eq_refl (d := .list ds) ?_ ?_ sh
  · unfold toD
    show refD 6 h p = _
    rw [refD, e1]
    dsimp only
    rw [hd]
    rfl
  · unfold toD
    show refD 6 h q = _
    rw [refD, e2]
    dsimp only
    rw [hd]
    rfl
end Dn

set_option maxHeartbeats 4000000
namespace Dn
open PySem
open TL (numL joinL)
/-! ### kinds of values -/
theorem ty_keep {h h' : Hs} {m : Option Nat} {a : A} {t : String} (e : tyName h a = some t) (g : Gm m h h') (hm : ∀ i, m = some i → a ≠ .ref i) : tyName h' a = some t := by
  cases a with
  | ref p =>
    unfold tyName at e ⊢
    dsimp only at e ⊢
    cases q : h[p]? with
    | none => rw [q] at e; cases e
    | some o =>
      rw [g.get q (fun z => hm _ z.symm rfl)]
      rw [q] at e
      exact e
  | _ => exact e
theorem isi_of {h : Hs} {a : A} {t c : String} {b : Bool} (e : tyName h a = some t) (k : L2.kitB t c = some b) : bIsi [a, .ty c] h = .ok (.bl b) h := by
  unfold bIsi
  dsimp only
  rw [e, Option.bind_some, k]
theorem isiG_of {h : Hs} {a : A} {t : String} {c : Str} (e : tyName h a = some t) (k : t ∈ kinds7) : bIsiG c [a, .glo c] h = .ok (.bl false) h := by
  unfold bIsiG
  dsimp only
  rw [if_pos rfl, e]
  dsimp only
  rw [if_pos k]
/-- no int -/
def noPlain : A → Bool
  | .non => true
  | .bl _ => true
  | .str _ => true
  | .tup _ => true
  | _ => false
theorem is_plain_no {n : Nat} {h : Hs} {a : A} (e : noPlain a = true) : f_is_plain n [a] h = .ok (.bl false) h := by
  cases a with
  | non => rfl
  | bl b => rfl
  | str x => rfl
  | tup xs => rfl
  | _ => cases e
/-- a number of places or a length that is none -/
def badN (hi : Int) : A → Bool
  | .int i => !(decide (1 ≤ i) && decide (i ≤ hi))
  | a => noPlain a
theorem is_within_np {n : Nat} {h : Hs} {a lo hi : A} (e : noPlain a = true) : f_is_within n [a, lo, hi] h = .ok (.bl false) h := by
  refine Ev.isOk (ev_body rfl ?_)
  simp only [d_is_within, seqD, raiseD, raiseVD, par3D, ex_bind, ev_ex, es_ex, ifD, retD, retND, dropD, setD, nextD, varD, conD, bin2, un1, testD, boolR, notT, andT, orT, ifE, andV, orV, notV, tupD, lstD, cbD, nilD, consD, asgD, parD, nameG, tupG, consG, nilG, setItD, augD, augItD, methD, forD, whileD, lcD, lc2D, sliceD, someD, noneD, chain3, truD, truR, orTD, andTD, notTD, joinedD, glueD, lstRg, rg1, rg2, itRg1, itRg2, itSeq, itEn, dnewKD, newK, newL, maxKD, yesT, wipeA, cmpI, add_I, sub_I, negA, ok_bind, sizeLine_eq, Nat.reduceLeDiff, eq_I, isi_tup, isi_str, isi_int, isi_boo, len_tup, qlt, qle, qgt, qge, rg_if, ev_ok, ev_bind, ev_if, ev_call, es_nx, es_rt, es_seq, es_then, es_if, List.getElem?_cons_succ, List.getElem?_cons_zero, List.set_cons_succ, List.set_cons_zero, List.length_cons, List.length_nil, List.map_cons, List.map_nil, List.replicate, List.cons_append, List.nil_append, Option.bind_some, Option.map_some, Bool.not_true, Bool.not_false, Bool.false_eq_true, if_true, if_false, decide_true, decide_false, true_and, and_true, Nat.zero_add, Nat.add_zero, Nat.reduceAdd, Nat.reduceSub, reduceIte, Nat.sub_self, Nat.succ_sub_succ_eq_sub, Nat.add_one_sub_one, is_plain_no e, and_self]
theorem is_within_int {n : Nat} {h : Hs} {i hi : Int} (e : (decide (1 ≤ i) && decide (i ≤ hi)) = false) : f_is_within n [.int i, .int 1, .int hi] h = .ok (.bl false) h := by
  refine Ev.isOk (ev_body rfl ?_)
  cases h1 : decide (1 ≤ i) with
  | false => simp only [d_is_within, seqD, raiseD, raiseVD, par3D, ex_bind, ev_ex, es_ex, ifD, retD, retND, dropD, setD, nextD, varD, conD, bin2, un1, testD, boolR, notT, andT, orT, ifE, andV, orV, notV, tupD, lstD, cbD, nilD, consD, asgD, parD, nameG, tupG, consG, nilG, setItD, augD, augItD, methD, forD, whileD, lcD, lc2D, sliceD, someD, noneD, chain3, truD, truR, orTD, andTD, notTD, joinedD, glueD, lstRg, rg1, rg2, itRg1, itRg2, itSeq, itEn, dnewKD, newK, newL, maxKD, yesT, wipeA, cmpI, add_I, sub_I, negA, ok_bind, sizeLine_eq, Nat.reduceLeDiff, eq_I, isi_tup, isi_str, isi_int, isi_boo, len_tup, qlt, qle, qgt, qge, rg_if, ev_ok, ev_bind, ev_if, ev_call, es_nx, es_rt, es_seq, es_then, es_if, List.getElem?_cons_succ, List.getElem?_cons_zero, List.set_cons_succ, List.set_cons_zero, List.length_cons, List.length_nil, List.map_cons, List.map_nil, List.replicate, List.cons_append, List.nil_append, Option.bind_some, Option.map_some, Bool.not_true, Bool.not_false, Bool.false_eq_true, if_true, if_false, decide_true, decide_false, true_and, and_true, Nat.zero_add, Nat.add_zero, Nat.reduceAdd, Nat.reduceSub, reduceIte, Nat.sub_self, Nat.succ_sub_succ_eq_sub, Nat.add_one_sub_one, is_plain_int, h1, and_self]
  | true =>
    cases h2 : decide (i ≤ hi) with
    | false => simp only [d_is_within, seqD, raiseD, raiseVD, par3D, ex_bind, ev_ex, es_ex, ifD, retD, retND, dropD, setD, nextD, varD, conD, bin2, un1, testD, boolR, notT, andT, orT, ifE, andV, orV, notV, tupD, lstD, cbD, nilD, consD, asgD, parD, nameG, tupG, consG, nilG, setItD, augD, augItD, methD, forD, whileD, lcD, lc2D, sliceD, someD, noneD, chain3, truD, truR, orTD, andTD, notTD, joinedD, glueD, lstRg, rg1, rg2, itRg1, itRg2, itSeq, itEn, dnewKD, newK, newL, maxKD, yesT, wipeA, cmpI, add_I, sub_I, negA, ok_bind, sizeLine_eq, Nat.reduceLeDiff, eq_I, isi_tup, isi_str, isi_int, isi_boo, len_tup, qlt, qle, qgt, qge, rg_if, ev_ok, ev_bind, ev_if, ev_call, es_nx, es_rt, es_seq, es_then, es_if, List.getElem?_cons_succ, List.getElem?_cons_zero, List.set_cons_succ, List.set_cons_zero, List.length_cons, List.length_nil, List.map_cons, List.map_nil, List.replicate, List.cons_append, List.nil_append, Option.bind_some, Option.map_some, Bool.not_true, Bool.not_false, Bool.false_eq_true, if_true, if_false, decide_true, decide_false, true_and, and_true, Nat.zero_add, Nat.add_zero, Nat.reduceAdd, Nat.reduceSub, reduceIte, Nat.sub_self, Nat.succ_sub_succ_eq_sub, Nat.add_one_sub_one, is_plain_int, h1, h2, and_self]
    | true => rw [h1, h2] at e; cases e
theorem is_within_bad {n : Nat} {h : Hs} {a : A} {hi : Int} (e : badN hi a = true) : f_is_within n [a, .int 1, .int hi] h = .ok (.bl false) h := by
  cases a with
  | int i => exact is_within_int (by revert e; unfold badN; dsimp only; cases (decide (1 ≤ i) && decide (i ≤ hi)) <;> simp)
  | non => exact is_within_np rfl
  | bl b => exact is_within_np rfl
  | str x => exact is_within_np rfl
  | tup xs => exact is_within_np rfl
  | rol xs => cases e
  | ref p => cases e
  | glo x => cases e
  | ty x => cases e
def nE (a : A) : Xn := ⟨"InvalidNumber", some ("given", a)⟩
theorem require_within_bad {n : Nat} {h : Hs} {a : A} {hi : Int} (e : badN hi a = true) : f_require_within n [a, .int 1, .int hi] h = .ex (nE a) h := by
  refine Ev.isEx (ev_body rfl ?_)
  simp only [d_require_within, seqD, raiseD, raiseVD, par3D, ex_bind, ev_ex, es_ex, ifD, retD, retND, dropD, setD, nextD, varD, conD, bin2, un1, testD, boolR, notT, andT, orT, ifE, andV, orV, notV, tupD, lstD, cbD, nilD, consD, asgD, parD, nameG, tupG, consG, nilG, setItD, augD, augItD, methD, forD, whileD, lcD, lc2D, sliceD, someD, noneD, chain3, truD, truR, orTD, andTD, notTD, joinedD, glueD, lstRg, rg1, rg2, itRg1, itRg2, itSeq, itEn, dnewKD, newK, newL, maxKD, yesT, wipeA, cmpI, add_I, sub_I, negA, ok_bind, sizeLine_eq, Nat.reduceLeDiff, eq_I, isi_tup, isi_str, isi_int, isi_boo, len_tup, qlt, qle, qgt, qge, rg_if, ev_ok, ev_bind, ev_if, ev_call, es_nx, es_rt, es_seq, es_then, es_if, List.getElem?_cons_succ, List.getElem?_cons_zero, List.set_cons_succ, List.set_cons_zero, List.length_cons, List.length_nil, List.map_cons, List.map_nil, List.replicate, List.cons_append, List.nil_append, Option.bind_some, Option.map_some, Bool.not_true, Bool.not_false, Bool.false_eq_true, if_true, if_false, decide_true, decide_false, true_and, and_true, Nat.zero_add, Nat.add_zero, Nat.reduceAdd, Nat.reduceSub, reduceIte, Nat.sub_self, Nat.succ_sub_succ_eq_sub, Nat.add_one_sub_one, is_within_bad e]
  all_goals first | trivial | rfl | exact ⟨rfl, rfl⟩
/-- a text that is none, or too long -/
def badT (h : Hs) (a : A) : Prop := (∃ t, tyName h a = some t ∧ L2.kitB t "str" = some false) ∨ ∃ x : Str, a = .str x ∧ 3000 < x.length ∧ x.length ≤ 16777216
theorem require_text_bad {n : Nat} {h : Hs} {a : A} (b : badT h a) : f_require_text n [a] h = .ex (pE 0) h := by
  refine Ev.isEx (ev_body rfl ?_)
  rcases b with ⟨t, e, k⟩ | ⟨x, rfl, h1, h2⟩
  · simp only [d_require_text, seqD, raiseD, raiseVD, par3D, ex_bind, ev_ex, es_ex, ifD, retD, retND, dropD, setD, nextD, varD, conD, bin2, un1, testD, boolR, notT, andT, orT, ifE, andV, orV, notV, tupD, lstD, cbD, nilD, consD, asgD, parD, nameG, tupG, consG, nilG, setItD, augD, augItD, methD, forD, whileD, lcD, lc2D, sliceD, someD, noneD, chain3, truD, truR, orTD, andTD, notTD, joinedD, glueD, lstRg, rg1, rg2, itRg1, itRg2, itSeq, itEn, dnewKD, newK, newL, maxKD, yesT, wipeA, cmpI, add_I, sub_I, negA, ok_bind, sizeLine_eq, Nat.reduceLeDiff, eq_I, isi_tup, isi_str, isi_int, isi_boo, len_tup, qlt, qle, qgt, qge, rg_if, ev_ok, ev_bind, ev_if, ev_call, es_nx, es_rt, es_seq, es_then, es_if, List.getElem?_cons_succ, List.getElem?_cons_zero, List.set_cons_succ, List.set_cons_zero, List.length_cons, List.length_nil, List.map_cons, List.map_nil, List.replicate, List.cons_append, List.nil_append, Option.bind_some, Option.map_some, Bool.not_true, Bool.not_false, Bool.false_eq_true, if_true, if_false, decide_true, decide_false, true_and, and_true, Nat.zero_add, Nat.add_zero, Nat.reduceAdd, Nat.reduceSub, reduceIte, Nat.sub_self, Nat.succ_sub_succ_eq_sub, Nat.add_one_sub_one, isi_of e k]
    all_goals first | trivial | rfl | exact ⟨rfl, rfl⟩
  · have h1' : (3000 : Int) < (x.length : Int) := by omega
    simp only [d_require_text, seqD, raiseD, raiseVD, par3D, ex_bind, ev_ex, es_ex, ifD, retD, retND, dropD, setD, nextD, varD, conD, bin2, un1, testD, boolR, notT, andT, orT, ifE, andV, orV, notV, tupD, lstD, cbD, nilD, consD, asgD, parD, nameG, tupG, consG, nilG, setItD, augD, augItD, methD, forD, whileD, lcD, lc2D, sliceD, someD, noneD, chain3, truD, truR, orTD, andTD, notTD, joinedD, glueD, lstRg, rg1, rg2, itRg1, itRg2, itSeq, itEn, dnewKD, newK, newL, maxKD, yesT, wipeA, cmpI, add_I, sub_I, negA, ok_bind, sizeLine_eq, Nat.reduceLeDiff, eq_I, isi_tup, isi_str, isi_int, isi_boo, len_tup, qlt, qle, qgt, qge, rg_if, ev_ok, ev_bind, ev_if, ev_call, es_nx, es_rt, es_seq, es_then, es_if, List.getElem?_cons_succ, List.getElem?_cons_zero, List.set_cons_succ, List.set_cons_zero, List.length_cons, List.length_nil, List.map_cons, List.map_nil, List.replicate, List.cons_append, List.nil_append, Option.bind_some, Option.map_some, Bool.not_true, Bool.not_false, Bool.false_eq_true, if_true, if_false, decide_true, decide_false, true_and, and_true, Nat.zero_add, Nat.add_zero, Nat.reduceAdd, Nat.reduceSub, reduceIte, Nat.sub_self, Nat.succ_sub_succ_eq_sub, Nat.add_one_sub_one, len_str h2, h1']
    all_goals first | trivial | rfl | exact ⟨rfl, rfl⟩
theorem read_move_badT {n : Nat} {h : Hs} {a c : A} (b : badT h a) : f_read_move n [a, c] h = .ex (pE 0) h := by
  refine Ev.isEx (ev_body rfl ?_)
  unfold d_read_move
  refine step_seq (fun _ _ => False) ?_ (fun _ _ z => z.elim)
  simp only [seqD, raiseD, raiseVD, par3D, ex_bind, ev_ex, es_ex, ifD, retD, retND, dropD, setD, nextD, varD, conD, bin2, un1, testD, boolR, notT, andT, orT, ifE, andV, orV, notV, tupD, lstD, cbD, nilD, consD, asgD, parD, nameG, tupG, consG, nilG, setItD, augD, augItD, methD, forD, whileD, lcD, lc2D, sliceD, someD, noneD, chain3, truD, truR, orTD, andTD, notTD, joinedD, glueD, lstRg, rg1, rg2, itRg1, itRg2, itSeq, itEn, dnewKD, newK, newL, maxKD, yesT, wipeA, cmpI, add_I, sub_I, negA, ok_bind, sizeLine_eq, Nat.reduceLeDiff, eq_I, isi_tup, isi_str, isi_int, isi_boo, len_tup, qlt, qle, qgt, qge, rg_if, ev_ok, ev_bind, ev_if, ev_call, es_nx, es_rt, es_seq, es_then, es_if, List.getElem?_cons_succ, List.getElem?_cons_zero, List.set_cons_succ, List.set_cons_zero, List.length_cons, List.length_nil, List.map_cons, List.map_nil, List.replicate, List.cons_append, List.nil_append, Option.bind_some, Option.map_some, Bool.not_true, Bool.not_false, Bool.false_eq_true, if_true, if_false, decide_true, decide_false, true_and, and_true, Nat.zero_add, Nat.add_zero, Nat.reduceAdd, Nat.reduceSub, reduceIte, Nat.sub_self, Nat.succ_sub_succ_eq_sub, Nat.add_one_sub_one, require_text_bad b]
  all_goals first | trivial | rfl | exact ⟨rfl, rfl⟩
theorem read_kinds_badT {n : Nat} {h : Hs} {a c : A} (b : badT h a) : f_read_kinds n [a, c] h = .ex (pE 0) h := by
  refine Ev.isEx (ev_body rfl ?_)
  unfold d_read_kinds
  refine step_seq (fun _ _ => False) ?_ (fun _ _ z => z.elim)
  simp only [seqD, raiseD, raiseVD, par3D, ex_bind, ev_ex, es_ex, ifD, retD, retND, dropD, setD, nextD, varD, conD, bin2, un1, testD, boolR, notT, andT, orT, ifE, andV, orV, notV, tupD, lstD, cbD, nilD, consD, asgD, parD, nameG, tupG, consG, nilG, setItD, augD, augItD, methD, forD, whileD, lcD, lc2D, sliceD, someD, noneD, chain3, truD, truR, orTD, andTD, notTD, joinedD, glueD, lstRg, rg1, rg2, itRg1, itRg2, itSeq, itEn, dnewKD, newK, newL, maxKD, yesT, wipeA, cmpI, add_I, sub_I, negA, ok_bind, sizeLine_eq, Nat.reduceLeDiff, eq_I, isi_tup, isi_str, isi_int, isi_boo, len_tup, qlt, qle, qgt, qge, rg_if, ev_ok, ev_bind, ev_if, ev_call, es_nx, es_rt, es_seq, es_then, es_if, List.getElem?_cons_succ, List.getElem?_cons_zero, List.set_cons_succ, List.set_cons_zero, List.length_cons, List.length_nil, List.map_cons, List.map_nil, List.replicate, List.cons_append, List.nil_append, Option.bind_some, Option.map_some, Bool.not_true, Bool.not_false, Bool.false_eq_true, if_true, if_false, decide_true, decide_false, true_and, and_true, Nat.zero_add, Nat.add_zero, Nat.reduceAdd, Nat.reduceSub, reduceIte, Nat.sub_self, Nat.succ_sub_succ_eq_sub, Nat.add_one_sub_one, require_text_bad b]
  all_goals first | trivial | rfl | exact ⟨rfl, rfl⟩
theorem read_row_badT {n : Nat} {h : Hs} {a : A} (b : badT h a) : f_read_row n [a] h = .ex (pE 0) h := by
  refine Ev.isEx (ev_body rfl ?_)
  unfold d_read_row
  refine step_seq (fun _ _ => False) ?_ (fun _ _ z => z.elim)
  simp only [seqD, raiseD, raiseVD, par3D, ex_bind, ev_ex, es_ex, ifD, retD, retND, dropD, setD, nextD, varD, conD, bin2, un1, testD, boolR, notT, andT, orT, ifE, andV, orV, notV, tupD, lstD, cbD, nilD, consD, asgD, parD, nameG, tupG, consG, nilG, setItD, augD, augItD, methD, forD, whileD, lcD, lc2D, sliceD, someD, noneD, chain3, truD, truR, orTD, andTD, notTD, joinedD, glueD, lstRg, rg1, rg2, itRg1, itRg2, itSeq, itEn, dnewKD, newK, newL, maxKD, yesT, wipeA, cmpI, add_I, sub_I, negA, ok_bind, sizeLine_eq, Nat.reduceLeDiff, eq_I, isi_tup, isi_str, isi_int, isi_boo, len_tup, qlt, qle, qgt, qge, rg_if, ev_ok, ev_bind, ev_if, ev_call, es_nx, es_rt, es_seq, es_then, es_if, List.getElem?_cons_succ, List.getElem?_cons_zero, List.set_cons_succ, List.set_cons_zero, List.length_cons, List.length_nil, List.map_cons, List.map_nil, List.replicate, List.cons_append, List.nil_append, Option.bind_some, Option.map_some, Bool.not_true, Bool.not_false, Bool.false_eq_true, if_true, if_false, decide_true, decide_false, true_and, and_true, Nat.zero_add, Nat.add_zero, Nat.reduceAdd, Nat.reduceSub, reduceIte, Nat.sub_self, Nat.succ_sub_succ_eq_sub, Nat.add_one_sub_one, require_text_bad b]
  all_goals first | trivial | rfl | exact ⟨rfl, rfl⟩
theorem read_group_badT {n : Nat} {h : Hs} {a : A} (b : badT h a) : f_read_group n [a] h = .ex (pE 0) h := by
  refine Ev.isEx (ev_body rfl ?_)
  unfold d_read_group
  refine step_seq (fun _ _ => False) ?_ (fun _ _ z => z.elim)
  simp only [seqD, raiseD, raiseVD, par3D, ex_bind, ev_ex, es_ex, ifD, retD, retND, dropD, setD, nextD, varD, conD, bin2, un1, testD, boolR, notT, andT, orT, ifE, andV, orV, notV, tupD, lstD, cbD, nilD, consD, asgD, parD, nameG, tupG, consG, nilG, setItD, augD, augItD, methD, forD, whileD, lcD, lc2D, sliceD, someD, noneD, chain3, truD, truR, orTD, andTD, notTD, joinedD, glueD, lstRg, rg1, rg2, itRg1, itRg2, itSeq, itEn, dnewKD, newK, newL, maxKD, yesT, wipeA, cmpI, add_I, sub_I, negA, ok_bind, sizeLine_eq, Nat.reduceLeDiff, eq_I, isi_tup, isi_str, isi_int, isi_boo, len_tup, qlt, qle, qgt, qge, rg_if, ev_ok, ev_bind, ev_if, ev_call, es_nx, es_rt, es_seq, es_then, es_if, List.getElem?_cons_succ, List.getElem?_cons_zero, List.set_cons_succ, List.set_cons_zero, List.length_cons, List.length_nil, List.map_cons, List.map_nil, List.replicate, List.cons_append, List.nil_append, Option.bind_some, Option.map_some, Bool.not_true, Bool.not_false, Bool.false_eq_true, if_true, if_false, decide_true, decide_false, true_and, and_true, Nat.zero_add, Nat.add_zero, Nat.reduceAdd, Nat.reduceSub, reduceIte, Nat.sub_self, Nat.succ_sub_succ_eq_sub, Nat.add_one_sub_one, require_text_bad b]
  all_goals first | trivial | rfl | exact ⟨rfl, rfl⟩
theorem read_move_badN {n : Nat} {h : Hs} {x : Str} {c : A} (hx : x.length ≤ 3000) (b : badN 24 c = true) : f_read_move n [.str x, c] h = .ex (nE c) h := by
  refine Ev.isEx (ev_body rfl ?_)
  unfold d_read_move
  refine step_seq (fun s h' => s = [some (.str x), some c, none, none] ∧ h = h') ?_ ?_
  · simp only [seqD, raiseD, raiseVD, par3D, ex_bind, ev_ex, es_ex, ifD, retD, retND, dropD, setD, nextD, varD, conD, bin2, un1, testD, boolR, notT, andT, orT, ifE, andV, orV, notV, tupD, lstD, cbD, nilD, consD, asgD, parD, nameG, tupG, consG, nilG, setItD, augD, augItD, methD, forD, whileD, lcD, lc2D, sliceD, someD, noneD, chain3, truD, truR, orTD, andTD, notTD, joinedD, glueD, lstRg, rg1, rg2, itRg1, itRg2, itSeq, itEn, dnewKD, newK, newL, maxKD, yesT, wipeA, cmpI, add_I, sub_I, negA, ok_bind, sizeLine_eq, Nat.reduceLeDiff, eq_I, isi_tup, isi_str, isi_int, isi_boo, len_tup, qlt, qle, qgt, qge, rg_if, ev_ok, ev_bind, ev_if, ev_call, es_nx, es_rt, es_seq, es_then, es_if, List.getElem?_cons_succ, List.getElem?_cons_zero, List.set_cons_succ, List.set_cons_zero, List.length_cons, List.length_nil, List.map_cons, List.map_nil, List.replicate, List.cons_append, List.nil_append, Option.bind_some, Option.map_some, Bool.not_true, Bool.not_false, Bool.false_eq_true, if_true, if_false, decide_true, decide_false, true_and, and_true, Nat.zero_add, Nat.add_zero, Nat.reduceAdd, Nat.reduceSub, reduceIte, Nat.sub_self, Nat.succ_sub_succ_eq_sub, Nat.add_one_sub_one, require_text_ok hx, and_self]
  rintro s h' ⟨rfl, rfl⟩
  refine step_seq (fun _ _ => False) ?_ (fun _ _ z => z.elim)
  simp only [seqD, raiseD, raiseVD, par3D, ex_bind, ev_ex, es_ex, ifD, retD, retND, dropD, setD, nextD, varD, conD, bin2, un1, testD, boolR, notT, andT, orT, ifE, andV, orV, notV, tupD, lstD, cbD, nilD, consD, asgD, parD, nameG, tupG, consG, nilG, setItD, augD, augItD, methD, forD, whileD, lcD, lc2D, sliceD, someD, noneD, chain3, truD, truR, orTD, andTD, notTD, joinedD, glueD, lstRg, rg1, rg2, itRg1, itRg2, itSeq, itEn, dnewKD, newK, newL, maxKD, yesT, wipeA, cmpI, add_I, sub_I, negA, ok_bind, sizeLine_eq, Nat.reduceLeDiff, eq_I, isi_tup, isi_str, isi_int, isi_boo, len_tup, qlt, qle, qgt, qge, rg_if, ev_ok, ev_bind, ev_if, ev_call, es_nx, es_rt, es_seq, es_then, es_if, List.getElem?_cons_succ, List.getElem?_cons_zero, List.set_cons_succ, List.set_cons_zero, List.length_cons, List.length_nil, List.map_cons, List.map_nil, List.replicate, List.cons_append, List.nil_append, Option.bind_some, Option.map_some, Bool.not_true, Bool.not_false, Bool.false_eq_true, if_true, if_false, decide_true, decide_false, true_and, and_true, Nat.zero_add, Nat.add_zero, Nat.reduceAdd, Nat.reduceSub, reduceIte, Nat.sub_self, Nat.succ_sub_succ_eq_sub, Nat.add_one_sub_one, require_within_bad b]
  all_goals first | trivial | rfl | exact ⟨rfl, rfl⟩
theorem read_kinds_badN {n : Nat} {h : Hs} {x : Str} {c : A} (hx : x.length ≤ 3000) (b : badN 60 c = true) : f_read_kinds n [.str x, c] h = .ex (nE c) h := by
  refine Ev.isEx (ev_body rfl ?_)
  unfold d_read_kinds
  refine step_seq (fun s h' => s = [some (.str x), some c, none, none, none, none] ∧ h = h') ?_ ?_
  · simp only [seqD, raiseD, raiseVD, par3D, ex_bind, ev_ex, es_ex, ifD, retD, retND, dropD, setD, nextD, varD, conD, bin2, un1, testD, boolR, notT, andT, orT, ifE, andV, orV, notV, tupD, lstD, cbD, nilD, consD, asgD, parD, nameG, tupG, consG, nilG, setItD, augD, augItD, methD, forD, whileD, lcD, lc2D, sliceD, someD, noneD, chain3, truD, truR, orTD, andTD, notTD, joinedD, glueD, lstRg, rg1, rg2, itRg1, itRg2, itSeq, itEn, dnewKD, newK, newL, maxKD, yesT, wipeA, cmpI, add_I, sub_I, negA, ok_bind, sizeLine_eq, Nat.reduceLeDiff, eq_I, isi_tup, isi_str, isi_int, isi_boo, len_tup, qlt, qle, qgt, qge, rg_if, ev_ok, ev_bind, ev_if, ev_call, es_nx, es_rt, es_seq, es_then, es_if, List.getElem?_cons_succ, List.getElem?_cons_zero, List.set_cons_succ, List.set_cons_zero, List.length_cons, List.length_nil, List.map_cons, List.map_nil, List.replicate, List.cons_append, List.nil_append, Option.bind_some, Option.map_some, Bool.not_true, Bool.not_false, Bool.false_eq_true, if_true, if_false, decide_true, decide_false, true_and, and_true, Nat.zero_add, Nat.add_zero, Nat.reduceAdd, Nat.reduceSub, reduceIte, Nat.sub_self, Nat.succ_sub_succ_eq_sub, Nat.add_one_sub_one, require_text_ok hx, and_self]
  rintro s h' ⟨rfl, rfl⟩
  refine step_seq (fun _ _ => False) ?_ (fun _ _ z => z.elim)
  simp only [seqD, raiseD, raiseVD, par3D, ex_bind, ev_ex, es_ex, ifD, retD, retND, dropD, setD, nextD, varD, conD, bin2, un1, testD, boolR, notT, andT, orT, ifE, andV, orV, notV, tupD, lstD, cbD, nilD, consD, asgD, parD, nameG, tupG, consG, nilG, setItD, augD, augItD, methD, forD, whileD, lcD, lc2D, sliceD, someD, noneD, chain3, truD, truR, orTD, andTD, notTD, joinedD, glueD, lstRg, rg1, rg2, itRg1, itRg2, itSeq, itEn, dnewKD, newK, newL, maxKD, yesT, wipeA, cmpI, add_I, sub_I, negA, ok_bind, sizeLine_eq, Nat.reduceLeDiff, eq_I, isi_tup, isi_str, isi_int, isi_boo, len_tup, qlt, qle, qgt, qge, rg_if, ev_ok, ev_bind, ev_if, ev_call, es_nx, es_rt, es_seq, es_then, es_if, List.getElem?_cons_succ, List.getElem?_cons_zero, List.set_cons_succ, List.set_cons_zero, List.length_cons, List.length_nil, List.map_cons, List.map_nil, List.replicate, List.cons_append, List.nil_append, Option.bind_some, Option.map_some, Bool.not_true, Bool.not_false, Bool.false_eq_true, if_true, if_false, decide_true, decide_false, true_and, and_true, Nat.zero_add, Nat.add_zero, Nat.reduceAdd, Nat.reduceSub, reduceIte, Nat.sub_self, Nat.succ_sub_succ_eq_sub, Nat.add_one_sub_one, require_within_bad b]
  all_goals first | trivial | rfl | exact ⟨rfl, rfl⟩
/-! ### groups that are none -/
def xE (c : Str) : Xn := ⟨c, none⟩
theorem require_group_bad {n : Nat} {h : Hs} {a : A} {t : String} (e : tyName h a = some t) (k : t ∈ kinds7) : f_require_group n [a] h = .ex (xE "InvalidGroup") h := by
  refine Ev.isEx (ev_body rfl ?_)
  simp only [d_require_group, seqD, raiseD, raiseVD, par3D, ex_bind, ev_ex, es_ex, ifD, retD, retND, dropD, setD, nextD, varD, conD, bin2, un1, testD, boolR, notT, andT, orT, ifE, andV, orV, notV, tupD, lstD, cbD, nilD, consD, asgD, parD, nameG, tupG, consG, nilG, setItD, augD, augItD, methD, forD, whileD, lcD, lc2D, sliceD, someD, noneD, chain3, truD, truR, orTD, andTD, notTD, joinedD, glueD, lstRg, rg1, rg2, itRg1, itRg2, itSeq, itEn, dnewKD, newK, newL, maxKD, yesT, wipeA, cmpI, add_I, sub_I, negA, ok_bind, sizeLine_eq, Nat.reduceLeDiff, eq_I, isi_tup, isi_str, isi_int, isi_boo, len_tup, qlt, qle, qgt, qge, rg_if, ev_ok, ev_bind, ev_if, ev_call, es_nx, es_rt, es_seq, es_then, es_if, List.getElem?_cons_succ, List.getElem?_cons_zero, List.set_cons_succ, List.set_cons_zero, List.length_cons, List.length_nil, List.map_cons, List.map_nil, List.replicate, List.cons_append, List.nil_append, Option.bind_some, Option.map_some, Bool.not_true, Bool.not_false, Bool.false_eq_true, if_true, if_false, decide_true, decide_false, true_and, and_true, Nat.zero_add, Nat.add_zero, Nat.reduceAdd, Nat.reduceSub, reduceIte, Nat.sub_self, Nat.succ_sub_succ_eq_sub, Nat.add_one_sub_one, isiG_of e k]
  all_goals first | trivial | rfl | exact ⟨rfl, rfl⟩
theorem write_group_bad {n : Nat} {h : Hs} {a : A} {t : String} (e : tyName h a = some t) (k : t ∈ kinds7) : f_write_group n [a] h = .ex (xE "InvalidGroup") h := by
  refine Ev.isEx (ev_body rfl ?_)
  unfold d_write_group
  refine step_seq (fun _ _ => False) ?_ (fun _ _ z => z.elim)
  simp only [seqD, raiseD, raiseVD, par3D, ex_bind, ev_ex, es_ex, ifD, retD, retND, dropD, setD, nextD, varD, conD, bin2, un1, testD, boolR, notT, andT, orT, ifE, andV, orV, notV, tupD, lstD, cbD, nilD, consD, asgD, parD, nameG, tupG, consG, nilG, setItD, augD, augItD, methD, forD, whileD, lcD, lc2D, sliceD, someD, noneD, chain3, truD, truR, orTD, andTD, notTD, joinedD, glueD, lstRg, rg1, rg2, itRg1, itRg2, itSeq, itEn, dnewKD, newK, newL, maxKD, yesT, wipeA, cmpI, add_I, sub_I, negA, ok_bind, sizeLine_eq, Nat.reduceLeDiff, eq_I, isi_tup, isi_str, isi_int, isi_boo, len_tup, qlt, qle, qgt, qge, rg_if, ev_ok, ev_bind, ev_if, ev_call, es_nx, es_rt, es_seq, es_then, es_if, List.getElem?_cons_succ, List.getElem?_cons_zero, List.set_cons_succ, List.set_cons_zero, List.length_cons, List.length_nil, List.map_cons, List.map_nil, List.replicate, List.cons_append, List.nil_append, Option.bind_some, Option.map_some, Bool.not_true, Bool.not_false, Bool.false_eq_true, if_true, if_false, decide_true, decide_false, true_and, and_true, Nat.zero_add, Nat.add_zero, Nat.reduceAdd, Nat.reduceSub, reduceIte, Nat.sub_self, Nat.succ_sub_succ_eq_sub, Nat.add_one_sub_one, require_group_bad e k]
  all_goals first | trivial | rfl | exact ⟨rfl, rfl⟩
end Dn

set_option maxHeartbeats 4000000
namespace Dn
open PySem
open TL (numL joinL)
/-! ### rows and kinds that are none -/
def intB : A → Bool
  | .int i => goodB i
  | _ => false
def flatB : A → Bool
  | .int _ => true
  | a => noPlain a
theorem is_integer_any {n : Nat} {h : Hs} {a : A} (e : flatB a = true) : f_is_integer n [a] h = .ok (.bl (intB a)) h := by
  have np : ∀ a, noPlain a = true → f_is_integer n [a] h = .ok (.bl false) h := fun a z => by
    refine Ev.isOk (ev_body rfl ?_)
    simp only [d_is_integer, seqD, raiseD, raiseVD, par3D, ex_bind, ev_ex, es_ex, ifD, retD, retND, dropD, setD, nextD, varD, conD, bin2, un1, testD, boolR, notT, andT, orT, ifE, andV, orV, notV, tupD, lstD, cbD, nilD, consD, asgD, parD, nameG, tupG, consG, nilG, setItD, augD, augItD, methD, forD, whileD, lcD, lc2D, sliceD, someD, noneD, chain3, truD, truR, orTD, andTD, notTD, joinedD, glueD, lstRg, rg1, rg2, itRg1, itRg2, itSeq, itEn, dnewKD, newK, newL, maxKD, yesT, wipeA, cmpI, add_I, sub_I, negA, ok_bind, sizeLine_eq, Nat.reduceLeDiff, eq_I, isi_tup, isi_str, isi_int, isi_boo, len_tup, qlt, qle, qgt, qge, rg_if, ev_ok, ev_bind, ev_if, ev_call, es_nx, es_rt, es_seq, es_then, es_if, List.getElem?_cons_succ, List.getElem?_cons_zero, List.set_cons_succ, List.set_cons_zero, List.length_cons, List.length_nil, List.map_cons, List.map_nil, List.replicate, List.cons_append, List.nil_append, Option.bind_some, Option.map_some, Bool.not_true, Bool.not_false, Bool.false_eq_true, if_true, if_false, decide_true, decide_false, true_and, and_true, Nat.zero_add, Nat.add_zero, Nat.reduceAdd, Nat.reduceSub, reduceIte, Nat.sub_self, Nat.succ_sub_succ_eq_sub, Nat.add_one_sub_one, is_plain_no z, and_self]
  cases a with
  | int i => exact is_integer_E
  | non => exact np _ rfl
  | bl b => exact np _ rfl
  | str x => exact np _ rfl
  | tup xs => exact np _ rfl
  | rol xs => cases e
  | ref p => cases e
  | glo x => cases e
  | ty x => cases e
theorem is_plain_any {n : Nat} {h : Hs} {a : A} (e : flatB a = true) : f_is_plain n [a] h = .ok (.bl (!noPlain a)) h := by
  cases a with
  | int i => rfl
  | non => rfl
  | bl b => rfl
  | str x => rfl
  | tup xs => rfl
  | rol xs => cases e
  | ref p => cases e
  | glo x => cases e
  | ty x => cases e
/-- a value that is no tuple of one to sixty integers, no list of the heap in it -/
def badR (h : Hs) (a : A) : Prop := (∃ t, tyName h a = some t ∧ L2.kitB t "tuple" = some false) ∨ ∃ xs : List A, a = .tup xs ∧ xs.length ≤ 100 ∧ xs.all flatB = true ∧ ((decide (1 ≤ xs.length) && decide (xs.length ≤ 60)) && xs.all intB) = false
theorem isT {h : Hs} {xs : List A} : bIsi [.tup xs, .ty "tuple"] h = .ok (.bl true) h := rfl
theorem are_integers_bad {X : Xn → Hs → Prop} {n : Nat} {h : Hs} {a : A} (hn : 5000 ≤ n) (b : badR h a) : Ev X (f_are_integers n [a] h) fun c h' => c = .bl false ∧ Gm none h h' := by
  refine ev_body rfl ?_
  rcases b with ⟨t, e, k⟩ | ⟨xs, rfl, hl, hf, hb⟩
  · simp only [d_are_integers, seqD, raiseD, raiseVD, par3D, ex_bind, ev_ex, es_ex, ifD, retD, retND, dropD, setD, nextD, varD, conD, bin2, un1, testD, boolR, notT, andT, orT, ifE, andV, orV, notV, tupD, lstD, cbD, nilD, consD, asgD, parD, nameG, tupG, consG, nilG, setItD, augD, augItD, methD, forD, whileD, lcD, lc2D, sliceD, someD, noneD, chain3, truD, truR, orTD, andTD, notTD, joinedD, glueD, lstRg, rg1, rg2, itRg1, itRg2, itSeq, itEn, dnewKD, newK, newL, maxKD, yesT, wipeA, cmpI, add_I, sub_I, negA, ok_bind, sizeLine_eq, Nat.reduceLeDiff, eq_I, isi_tup, isi_str, isi_int, isi_boo, len_tup, qlt, qle, qgt, qge, rg_if, ev_ok, ev_bind, ev_if, ev_call, es_nx, es_rt, es_seq, es_then, es_if, List.getElem?_cons_succ, List.getElem?_cons_zero, List.set_cons_succ, List.set_cons_zero, List.length_cons, List.length_nil, List.map_cons, List.map_nil, List.replicate, List.cons_append, List.nil_append, Option.bind_some, Option.map_some, Bool.not_true, Bool.not_false, Bool.false_eq_true, if_true, if_false, decide_true, decide_false, true_and, and_true, Nat.zero_add, Nat.add_zero, Nat.reduceAdd, Nat.reduceSub, reduceIte, Nat.sub_self, Nat.succ_sub_succ_eq_sub, Nat.add_one_sub_one, isi_of e k]
    exact Gm.refl
  · unfold d_are_integers
    cases h1 : decide (1 ≤ xs.length) with
    | false =>
      have h1' : decide ((1 : Int) ≤ (xs.length : Int)) = false := decide_eq_false (by have := of_decide_eq_false h1; omega)
      simp only [seqD, raiseD, raiseVD, par3D, ex_bind, ev_ex, es_ex, ifD, retD, retND, dropD, setD, nextD, varD, conD, bin2, un1, testD, boolR, notT, andT, orT, ifE, andV, orV, notV, tupD, lstD, cbD, nilD, consD, asgD, parD, nameG, tupG, consG, nilG, setItD, augD, augItD, methD, forD, whileD, lcD, lc2D, sliceD, someD, noneD, chain3, truD, truR, orTD, andTD, notTD, joinedD, glueD, lstRg, rg1, rg2, itRg1, itRg2, itSeq, itEn, dnewKD, newK, newL, maxKD, yesT, wipeA, cmpI, add_I, sub_I, negA, ok_bind, sizeLine_eq, Nat.reduceLeDiff, eq_I, isi_tup, isi_str, isi_int, isi_boo, len_tup, qlt, qle, qgt, qge, rg_if, ev_ok, ev_bind, ev_if, ev_call, es_nx, es_rt, es_seq, es_then, es_if, List.getElem?_cons_succ, List.getElem?_cons_zero, List.set_cons_succ, List.set_cons_zero, List.length_cons, List.length_nil, List.map_cons, List.map_nil, List.replicate, List.cons_append, List.nil_append, Option.bind_some, Option.map_some, Bool.not_true, Bool.not_false, Bool.false_eq_true, if_true, if_false, decide_true, decide_false, true_and, and_true, Nat.zero_add, Nat.add_zero, Nat.reduceAdd, Nat.reduceSub, reduceIte, Nat.sub_self, Nat.succ_sub_succ_eq_sub, Nat.add_one_sub_one, isT, h1']
      exact Gm.refl
    | true =>
    have h1' : decide ((1 : Int) ≤ (xs.length : Int)) = true := decide_eq_true (by have := of_decide_eq_true h1; omega)
    cases h2 : decide (xs.length ≤ 60) with
    | false =>
      have h2' : decide ((xs.length : Int) ≤ 60) = false := decide_eq_false (by have := of_decide_eq_false h2; omega)
      simp only [seqD, raiseD, raiseVD, par3D, ex_bind, ev_ex, es_ex, ifD, retD, retND, dropD, setD, nextD, varD, conD, bin2, un1, testD, boolR, notT, andT, orT, ifE, andV, orV, notV, tupD, lstD, cbD, nilD, consD, asgD, parD, nameG, tupG, consG, nilG, setItD, augD, augItD, methD, forD, whileD, lcD, lc2D, sliceD, someD, noneD, chain3, truD, truR, orTD, andTD, notTD, joinedD, glueD, lstRg, rg1, rg2, itRg1, itRg2, itSeq, itEn, dnewKD, newK, newL, maxKD, yesT, wipeA, cmpI, add_I, sub_I, negA, ok_bind, sizeLine_eq, Nat.reduceLeDiff, eq_I, isi_tup, isi_str, isi_int, isi_boo, len_tup, qlt, qle, qgt, qge, rg_if, ev_ok, ev_bind, ev_if, ev_call, es_nx, es_rt, es_seq, es_then, es_if, List.getElem?_cons_succ, List.getElem?_cons_zero, List.set_cons_succ, List.set_cons_zero, List.length_cons, List.length_nil, List.map_cons, List.map_nil, List.replicate, List.cons_append, List.nil_append, Option.bind_some, Option.map_some, Bool.not_true, Bool.not_false, Bool.false_eq_true, if_true, if_false, decide_true, decide_false, true_and, and_true, Nat.zero_add, Nat.add_zero, Nat.reduceAdd, Nat.reduceSub, reduceIte, Nat.sub_self, Nat.succ_sub_succ_eq_sub, Nat.add_one_sub_one, isT, h1', h2']
      exact Gm.refl
    | true =>
    have h2' : decide ((xs.length : Int) ≤ 60) = true := decide_eq_true (by have := of_decide_eq_true h2; omega)
    rw [h1, h2] at hb
    simp only [seqD, raiseD, raiseVD, par3D, ex_bind, ev_ex, es_ex, ifD, retD, retND, dropD, setD, nextD, varD, conD, bin2, un1, testD, boolR, notT, andT, orT, ifE, andV, orV, notV, tupD, lstD, cbD, nilD, consD, asgD, parD, nameG, tupG, consG, nilG, setItD, augD, augItD, methD, forD, whileD, lcD, lc2D, sliceD, someD, noneD, chain3, truD, truR, orTD, andTD, notTD, joinedD, glueD, lstRg, rg1, rg2, itRg1, itRg2, itSeq, itEn, dnewKD, newK, newL, maxKD, yesT, wipeA, cmpI, add_I, sub_I, negA, ok_bind, sizeLine_eq, Nat.reduceLeDiff, eq_I, isi_tup, isi_str, isi_int, isi_boo, len_tup, qlt, qle, qgt, qge, rg_if, ev_ok, ev_bind, ev_if, ev_call, es_nx, es_rt, es_seq, es_then, es_if, List.getElem?_cons_succ, List.getElem?_cons_zero, List.set_cons_succ, List.set_cons_zero, List.length_cons, List.length_nil, List.map_cons, List.map_nil, List.replicate, List.cons_append, List.nil_append, Option.bind_some, Option.map_some, Bool.not_true, Bool.not_false, Bool.false_eq_true, if_true, if_false, decide_true, decide_false, true_and, and_true, Nat.zero_add, Nat.add_zero, Nat.reduceAdd, Nat.reduceSub, reduceIte, Nat.sub_self, Nat.succ_sub_succ_eq_sub, Nat.add_one_sub_one, isT, h1', h2']
    refine lc_B (ys := xs) (G := fun x => .bl (intB x)) (by omega) (by omega) (fun j hj => ?_) ?_ ?_
    · refine ⟨xs[j], _, by unfold stepX; rw [List.getElem?_eq_getElem hj], rfl, ?_⟩
      simp only [callD, seqD, raiseD, raiseVD, par3D, ex_bind, ev_ex, es_ex, ifD, retD, retND, dropD, setD, nextD, varD, conD, bin2, un1, testD, boolR, notT, andT, orT, ifE, andV, orV, notV, tupD, lstD, cbD, nilD, consD, asgD, parD, nameG, tupG, consG, nilG, setItD, augD, augItD, methD, forD, whileD, lcD, lc2D, sliceD, someD, noneD, chain3, truD, truR, orTD, andTD, notTD, joinedD, glueD, lstRg, rg1, rg2, itRg1, itRg2, itSeq, itEn, dnewKD, newK, newL, maxKD, yesT, wipeA, cmpI, add_I, sub_I, negA, ok_bind, sizeLine_eq, Nat.reduceLeDiff, eq_I, isi_tup, isi_str, isi_int, isi_boo, len_tup, qlt, qle, qgt, qge, rg_if, ev_ok, ev_bind, ev_if, ev_call, es_nx, es_rt, es_seq, es_then, es_if, List.getElem?_cons_succ, List.getElem?_cons_zero, List.set_cons_succ, List.set_cons_zero, List.length_cons, List.length_nil, List.map_cons, List.map_nil, List.replicate, List.cons_append, List.nil_append, Option.bind_some, Option.map_some, Bool.not_true, Bool.not_false, Bool.false_eq_true, if_true, if_false, decide_true, decide_false, true_and, and_true, Nat.zero_add, Nat.add_zero, Nat.reduceAdd, Nat.reduceSub, reduceIte, Nat.sub_self, Nat.succ_sub_succ_eq_sub, Nat.add_one_sub_one]
      exact is_integer_any (List.all_eq_true.mp hf _ (List.getElem_mem hj))
    · unfold stepX
      rw [List.getElem?_eq_none (Nat.le_refl _)]
    · have e : (xs.map fun x => A.bl (intB x)) = (xs.map intB).map A.bl := by rw [List.map_map]; rfl
      have e2 : (xs.map intB).all id = false := by
        rw [List.all_map]
        simpa using hb
      rw [e, all_B get_app, ev_ok, e2]
      exact ⟨rfl, Gm.refl.app⟩
theorem write_row_bad {n : Nat} {h : Hs} {a : A} (hn : 5000 ≤ n) (b : badR h a) : Ev (fun x h' => x = xE "InvalidRow" ∧ Gm none h h') (f_write_row n [a] h) fun _ _ => False := by
  refine ev_body rfl ?_
  unfold d_write_row
  refine step_seq (fun _ _ => False) ?_ (fun _ _ z => z.elim)
  simp only [seqD, raiseD, raiseVD, par3D, ex_bind, ev_ex, es_ex, ifD, retD, retND, dropD, setD, nextD, varD, conD, bin2, un1, testD, boolR, notT, andT, orT, ifE, andV, orV, notV, tupD, lstD, cbD, nilD, consD, asgD, parD, nameG, tupG, consG, nilG, setItD, augD, augItD, methD, forD, whileD, lcD, lc2D, sliceD, someD, noneD, chain3, truD, truR, orTD, andTD, notTD, joinedD, glueD, lstRg, rg1, rg2, itRg1, itRg2, itSeq, itEn, dnewKD, newK, newL, maxKD, yesT, wipeA, cmpI, add_I, sub_I, negA, ok_bind, sizeLine_eq, Nat.reduceLeDiff, eq_I, isi_tup, isi_str, isi_int, isi_boo, len_tup, qlt, qle, qgt, qge, rg_if, ev_ok, ev_bind, ev_if, ev_call, es_nx, es_rt, es_seq, es_then, es_if, List.getElem?_cons_succ, List.getElem?_cons_zero, List.set_cons_succ, List.set_cons_zero, List.length_cons, List.length_nil, List.map_cons, List.map_nil, List.replicate, List.cons_append, List.nil_append, Option.bind_some, Option.map_some, Bool.not_true, Bool.not_false, Bool.false_eq_true, if_true, if_false, decide_true, decide_false, true_and, and_true, Nat.zero_add, Nat.add_zero, Nat.reduceAdd, Nat.reduceSub, reduceIte, Nat.sub_self, Nat.succ_sub_succ_eq_sub, Nat.add_one_sub_one]
  refine (are_integers_bad hn b).mono fun c h' z => ?_
  obtain ⟨rfl, g⟩ := z
  simp only [seqD, raiseD, raiseVD, par3D, ex_bind, ev_ex, es_ex, ifD, retD, retND, dropD, setD, nextD, varD, conD, bin2, un1, testD, boolR, notT, andT, orT, ifE, andV, orV, notV, tupD, lstD, cbD, nilD, consD, asgD, parD, nameG, tupG, consG, nilG, setItD, augD, augItD, methD, forD, whileD, lcD, lc2D, sliceD, someD, noneD, chain3, truD, truR, orTD, andTD, notTD, joinedD, glueD, lstRg, rg1, rg2, itRg1, itRg2, itSeq, itEn, dnewKD, newK, newL, maxKD, yesT, wipeA, cmpI, add_I, sub_I, negA, ok_bind, sizeLine_eq, Nat.reduceLeDiff, eq_I, isi_tup, isi_str, isi_int, isi_boo, len_tup, qlt, qle, qgt, qge, rg_if, ev_ok, ev_bind, ev_if, ev_call, es_nx, es_rt, es_seq, es_then, es_if, List.getElem?_cons_succ, List.getElem?_cons_zero, List.set_cons_succ, List.set_cons_zero, List.length_cons, List.length_nil, List.map_cons, List.map_nil, List.replicate, List.cons_append, List.nil_append, Option.bind_some, Option.map_some, Bool.not_true, Bool.not_false, Bool.false_eq_true, if_true, if_false, decide_true, decide_false, true_and, and_true, Nat.zero_add, Nat.add_zero, Nat.reduceAdd, Nat.reduceSub, reduceIte, Nat.sub_self, Nat.succ_sub_succ_eq_sub, Nat.add_one_sub_one]
  exact ⟨rfl, g⟩
theorem write_kinds_bad {n : Nat} {h : Hs} {a : A} (hn : 5000 ≤ n) (b : badR h a) : Ev (fun x h' => x = xE "InvalidKinds" ∧ Gm none h h') (f_write_kinds n [a] h) fun _ _ => False := by
  refine ev_body rfl ?_
  unfold d_write_kinds
  refine step_seq (fun _ _ => False) ?_ (fun _ _ z => z.elim)
  simp only [seqD, raiseD, raiseVD, par3D, ex_bind, ev_ex, es_ex, ifD, retD, retND, dropD, setD, nextD, varD, conD, bin2, un1, testD, boolR, notT, andT, orT, ifE, andV, orV, notV, tupD, lstD, cbD, nilD, consD, asgD, parD, nameG, tupG, consG, nilG, setItD, augD, augItD, methD, forD, whileD, lcD, lc2D, sliceD, someD, noneD, chain3, truD, truR, orTD, andTD, notTD, joinedD, glueD, lstRg, rg1, rg2, itRg1, itRg2, itSeq, itEn, dnewKD, newK, newL, maxKD, yesT, wipeA, cmpI, add_I, sub_I, negA, ok_bind, sizeLine_eq, Nat.reduceLeDiff, eq_I, isi_tup, isi_str, isi_int, isi_boo, len_tup, qlt, qle, qgt, qge, rg_if, ev_ok, ev_bind, ev_if, ev_call, es_nx, es_rt, es_seq, es_then, es_if, List.getElem?_cons_succ, List.getElem?_cons_zero, List.set_cons_succ, List.set_cons_zero, List.length_cons, List.length_nil, List.map_cons, List.map_nil, List.replicate, List.cons_append, List.nil_append, Option.bind_some, Option.map_some, Bool.not_true, Bool.not_false, Bool.false_eq_true, if_true, if_false, decide_true, decide_false, true_and, and_true, Nat.zero_add, Nat.add_zero, Nat.reduceAdd, Nat.reduceSub, reduceIte, Nat.sub_self, Nat.succ_sub_succ_eq_sub, Nat.add_one_sub_one]
  refine (are_integers_bad hn b).mono fun c h' z => ?_
  obtain ⟨rfl, g⟩ := z
  simp only [seqD, raiseD, raiseVD, par3D, ex_bind, ev_ex, es_ex, ifD, retD, retND, dropD, setD, nextD, varD, conD, bin2, un1, testD, boolR, notT, andT, orT, ifE, andV, orV, notV, tupD, lstD, cbD, nilD, consD, asgD, parD, nameG, tupG, consG, nilG, setItD, augD, augItD, methD, forD, whileD, lcD, lc2D, sliceD, someD, noneD, chain3, truD, truR, orTD, andTD, notTD, joinedD, glueD, lstRg, rg1, rg2, itRg1, itRg2, itSeq, itEn, dnewKD, newK, newL, maxKD, yesT, wipeA, cmpI, add_I, sub_I, negA, ok_bind, sizeLine_eq, Nat.reduceLeDiff, eq_I, isi_tup, isi_str, isi_int, isi_boo, len_tup, qlt, qle, qgt, qge, rg_if, ev_ok, ev_bind, ev_if, ev_call, es_nx, es_rt, es_seq, es_then, es_if, List.getElem?_cons_succ, List.getElem?_cons_zero, List.set_cons_succ, List.set_cons_zero, List.length_cons, List.length_nil, List.map_cons, List.map_nil, List.replicate, List.cons_append, List.nil_append, Option.bind_some, Option.map_some, Bool.not_true, Bool.not_false, Bool.false_eq_true, if_true, if_false, decide_true, decide_false, true_and, and_true, Nat.zero_add, Nat.add_zero, Nat.reduceAdd, Nat.reduceSub, reduceIte, Nat.sub_self, Nat.succ_sub_succ_eq_sub, Nat.add_one_sub_one]
  exact ⟨rfl, g⟩
/-! ### moves that are none -/
theorem eq_lists {neg : Bool} {p q : Nat} {xs ys : List Int} {h : Hs} (e1 : h[p]? = some (.lst (xs.map A.int))) (e2 : h[q]? = some (.lst (ys.map A.int))) : eqA neg (.ref p) (.ref q) h = .ok (.bl (if neg then !PyData.eqv (.list (xs.map PyData.int)) (.list (ys.map PyData.int)) else PyData.eqv (.list (xs.map PyData.int)) (.list (ys.map PyData.int)))) h := by
  have r1 : ∀ (r : Nat) (zs : List Int), h[r]? = some (.lst (zs.map A.int)) → toD h (.ref r) = some (.list (zs.map PyData.int)) := fun r zs e => by
    unfold toD
    show refD 6 h r = _
    rw [refD, e]
    dsimp only
    rw [toDs_map (F := A.int) (D := fun x => PyData.int x) zs fun _ _ => rfl]
    rfl
  have sh : ∀ zs : List Int, SeqAt.shaped (.list (zs.map PyData.int)) = true := fun zs => shaped_list (k := 0) (lay_map (D := fun (x : Int) => PyData.int x) zs fun y _ => ⟨rfl, Nat.le_refl _⟩) (by decide)
  unfold eqA
  rw [r1 p xs e1, r1 q ys e2]
  dsimp only
  rw [sh, sh, Bool.and_self, if_pos rfl]
def rgI (k : Nat) : List Int := (List.range k).map fun (x : Nat) => (0 : Int) + (x : Int)
theorem rgL_I (k : Nat) : rgL 0 (k : Int) = (rgI k).map A.int := by
  unfold rgL rgI
  rw [List.map_map, Int.sub_zero, Int.toNat_natCast]
  rfl
/-- a value that is no move -/
def badM (h : Hs) (a : A) : Prop := (∃ t, tyName h a = some t ∧ L2.kitB t "tuple" = some false) ∨ (∃ xs : List A, a = .tup xs ∧ xs.length ≤ 100 ∧ xs.all flatB = true ∧ ((decide (1 ≤ xs.length) && decide (xs.length ≤ 24)) && xs.all fun x => !noPlain x) = false) ∨
  ∃ zs : List Int, a = .tup (zs.map A.int) ∧ 1 ≤ zs.length ∧ zs.length ≤ 24 ∧ PyData.eqv (.list ((sortI zs).map PyData.int)) (.list ((rgI zs.length).map PyData.int)) = false
end Dn

set_option maxHeartbeats 4000000
namespace Dn
open PySem
theorem lc_true {X : Xn → Hs → Prop} {e : DE} {n k v : Nat} {xs : List A} {s : Sl} {h : Hs} {Q : List A → Hs → Prop} (hk : xs.length < k) (hz : xs.length < 16777216) (he : ∀ j (hj : j < xs.length), e n (s.set v (some xs[j])) h = .ok (.bl true) h) (q : Q (List.replicate xs.length (.bl true)) h) :
    Ev X (lcL (stepX xs) (nameG v) yesT e n k 0 [] s h) Q := by
  refine lc_any (m := xs.length) (fun j acc h' => j ≤ xs.length ∧ acc = List.replicate j (.bl true) ∧ h' = h) ?_ ?_ xs.length k 0 [] h (Nat.zero_add _) hk ⟨Nat.zero_le _, rfl, rfl⟩
  · rintro j acc h' hj ⟨_, rfl, rfl⟩
    refine ⟨xs[j], _, by unfold stepX; rw [List.getElem?_eq_getElem hj], rfl, ?_⟩
    rw [yesT, ev_ok]
    simp only [if_true]
    rw [he j hj, ev_ok]
    exact ⟨lt_line (by rw [List.length_replicate]; omega), hj, by rw [List.replicate_succ'], rfl⟩
  · rintro acc h' ⟨_, rfl, rfl⟩
    exact ⟨by unfold stepX; rw [List.getElem?_eq_none (Nat.le_refl _)], q⟩
theorem is_move_of_plain {X : Xn → Hs → Prop} {n : Nat} {h : Hs} {xs : List A} (hn : 5000 ≤ n) (hl : xs.length ≤ 100) (hf : xs.all flatB = true) (hb : (xs.all fun x => !noPlain x) = false) : Ev X (f_is_move_of n [.int (xs.length : Int), .tup xs] h) fun c h' => c = .bl false ∧ Gm none h h' := by
  refine ev_body rfl ?_
  unfold d_is_move_of
  refine step_seq (fun _ _ => False) ?_ (fun _ _ z => z.elim)
  simp only [seqD, raiseD, raiseVD, par3D, ex_bind, ev_ex, es_ex, ifD, retD, retND, dropD, setD, nextD, varD, conD, bin2, un1, testD, boolR, notT, andT, orT, ifE, andV, orV, notV, tupD, lstD, cbD, nilD, consD, asgD, parD, nameG, tupG, consG, nilG, setItD, augD, augItD, methD, forD, whileD, lcD, lc2D, sliceD, someD, noneD, chain3, truD, truR, orTD, andTD, notTD, joinedD, glueD, lstRg, rg1, rg2, itRg1, itRg2, itSeq, itEn, dnewKD, newK, newL, maxKD, yesT, wipeA, cmpI, add_I, sub_I, negA, ok_bind, sizeLine_eq, Nat.reduceLeDiff, eq_I, isi_tup, isi_str, isi_int, isi_boo, len_tup, qlt, qle, qgt, qge, rg_if, ev_ok, ev_bind, ev_if, ev_call, es_nx, es_rt, es_seq, es_then, es_if, List.getElem?_cons_succ, List.getElem?_cons_zero, List.set_cons_succ, List.set_cons_zero, List.length_cons, List.length_nil, List.map_cons, List.map_nil, List.replicate, List.cons_append, List.nil_append, Option.bind_some, Option.map_some, Bool.not_true, Bool.not_false, Bool.false_eq_true, if_true, if_false, decide_true, decide_false, true_and, and_true, Nat.zero_add, Nat.add_zero, Nat.reduceAdd, Nat.reduceSub, reduceIte, Nat.sub_self, Nat.succ_sub_succ_eq_sub, Nat.add_one_sub_one, isT]
  refine lc_B (ys := xs) (G := fun x => .bl (!noPlain x)) (by omega) (by omega) (fun j hj => ?_) ?_ ?_
  · refine ⟨xs[j], _, by unfold stepX; rw [List.getElem?_eq_getElem hj], rfl, ?_⟩
    simp only [callD, seqD, raiseD, raiseVD, par3D, ex_bind, ev_ex, es_ex, ifD, retD, retND, dropD, setD, nextD, varD, conD, bin2, un1, testD, boolR, notT, andT, orT, ifE, andV, orV, notV, tupD, lstD, cbD, nilD, consD, asgD, parD, nameG, tupG, consG, nilG, setItD, augD, augItD, methD, forD, whileD, lcD, lc2D, sliceD, someD, noneD, chain3, truD, truR, orTD, andTD, notTD, joinedD, glueD, lstRg, rg1, rg2, itRg1, itRg2, itSeq, itEn, dnewKD, newK, newL, maxKD, yesT, wipeA, cmpI, add_I, sub_I, negA, ok_bind, sizeLine_eq, Nat.reduceLeDiff, eq_I, isi_tup, isi_str, isi_int, isi_boo, len_tup, qlt, qle, qgt, qge, rg_if, ev_ok, ev_bind, ev_if, ev_call, es_nx, es_rt, es_seq, es_then, es_if, List.getElem?_cons_succ, List.getElem?_cons_zero, List.set_cons_succ, List.set_cons_zero, List.length_cons, List.length_nil, List.map_cons, List.map_nil, List.replicate, List.cons_append, List.nil_append, Option.bind_some, Option.map_some, Bool.not_true, Bool.not_false, Bool.false_eq_true, if_true, if_false, decide_true, decide_false, true_and, and_true, Nat.zero_add, Nat.add_zero, Nat.reduceAdd, Nat.reduceSub, reduceIte, Nat.sub_self, Nat.succ_sub_succ_eq_sub, Nat.add_one_sub_one]
    exact is_plain_any (List.all_eq_true.mp hf _ (List.getElem_mem hj))
  · unfold stepX
    rw [List.getElem?_eq_none (Nat.le_refl _)]
  · have e : (xs.map fun x => A.bl (!noPlain x)) = (xs.map fun x => !noPlain x).map A.bl := by rw [List.map_map]; rfl
    have e2 : (xs.map fun x => !noPlain x).all id = false := by
      rw [List.all_map]
      exact hb
    rw [e, all_B get_app, ev_ok, e2]
    simp only [seqD, raiseD, raiseVD, par3D, ex_bind, ev_ex, es_ex, ifD, retD, retND, dropD, setD, nextD, varD, conD, bin2, un1, testD, boolR, notT, andT, orT, ifE, andV, orV, notV, tupD, lstD, cbD, nilD, consD, asgD, parD, nameG, tupG, consG, nilG, setItD, augD, augItD, methD, forD, whileD, lcD, lc2D, sliceD, someD, noneD, chain3, truD, truR, orTD, andTD, notTD, joinedD, glueD, lstRg, rg1, rg2, itRg1, itRg2, itSeq, itEn, dnewKD, newK, newL, maxKD, yesT, wipeA, cmpI, add_I, sub_I, negA, ok_bind, sizeLine_eq, Nat.reduceLeDiff, eq_I, isi_tup, isi_str, isi_int, isi_boo, len_tup, qlt, qle, qgt, qge, rg_if, ev_ok, ev_bind, ev_if, ev_call, es_nx, es_rt, es_seq, es_then, es_if, List.getElem?_cons_succ, List.getElem?_cons_zero, List.set_cons_succ, List.set_cons_zero, List.length_cons, List.length_nil, List.map_cons, List.map_nil, List.replicate, List.cons_append, List.nil_append, Option.bind_some, Option.map_some, Bool.not_true, Bool.not_false, Bool.false_eq_true, if_true, if_false, decide_true, decide_false, true_and, and_true, Nat.zero_add, Nat.add_zero, Nat.reduceAdd, Nat.reduceSub, reduceIte, Nat.sub_self, Nat.succ_sub_succ_eq_sub, Nat.add_one_sub_one]
    exact Gm.refl.app
theorem is_move_of_sort {X : Xn → Hs → Prop} {n : Nat} {h : Hs} {zs : List Int} (hn : 5000 ≤ n) (hl : zs.length ≤ 24) (hb : PyData.eqv (.list ((sortI zs).map PyData.int)) (.list ((rgI zs.length).map PyData.int)) = false) : Ev X (f_is_move_of n [.int (zs.length : Int), .tup (zs.map A.int)] h) fun c h' => c = .bl false ∧ Gm none h h' := by
  refine ev_body rfl ?_
  unfold d_is_move_of
  refine step_seq (fun s h' => s = [some (.int (zs.length : Int)), some (.tup (zs.map A.int)), none] ∧ Gm none h h') ?_ ?_
  · simp only [seqD, raiseD, raiseVD, par3D, ex_bind, ev_ex, es_ex, ifD, retD, retND, dropD, setD, nextD, varD, conD, bin2, un1, testD, boolR, notT, andT, orT, ifE, andV, orV, notV, tupD, lstD, cbD, nilD, consD, asgD, parD, nameG, tupG, consG, nilG, setItD, augD, augItD, methD, forD, whileD, lcD, lc2D, sliceD, someD, noneD, chain3, truD, truR, orTD, andTD, notTD, joinedD, glueD, lstRg, rg1, rg2, itRg1, itRg2, itSeq, itEn, dnewKD, newK, newL, maxKD, yesT, wipeA, cmpI, add_I, sub_I, negA, ok_bind, sizeLine_eq, Nat.reduceLeDiff, eq_I, isi_tup, isi_str, isi_int, isi_boo, len_tup, qlt, qle, qgt, qge, rg_if, ev_ok, ev_bind, ev_if, ev_call, es_nx, es_rt, es_seq, es_then, es_if, List.getElem?_cons_succ, List.getElem?_cons_zero, List.set_cons_succ, List.set_cons_zero, List.length_cons, List.length_nil, List.map_cons, List.map_nil, List.replicate, List.cons_append, List.nil_append, Option.bind_some, Option.map_some, Bool.not_true, Bool.not_false, Bool.false_eq_true, if_true, if_false, decide_true, decide_false, true_and, and_true, Nat.zero_add, Nat.add_zero, Nat.reduceAdd, Nat.reduceSub, reduceIte, Nat.sub_self, Nat.succ_sub_succ_eq_sub, Nat.add_one_sub_one, isT, List.length_map]
    refine lc_true (by rw [List.length_map]; omega) (by rw [List.length_map]; omega) (fun j hj => ?_) ?_
    · simp only [List.getElem_map, callD, seqD, raiseD, raiseVD, par3D, ex_bind, ev_ex, es_ex, ifD, retD, retND, dropD, setD, nextD, varD, conD, bin2, un1, testD, boolR, notT, andT, orT, ifE, andV, orV, notV, tupD, lstD, cbD, nilD, consD, asgD, parD, nameG, tupG, consG, nilG, setItD, augD, augItD, methD, forD, whileD, lcD, lc2D, sliceD, someD, noneD, chain3, truD, truR, orTD, andTD, notTD, joinedD, glueD, lstRg, rg1, rg2, itRg1, itRg2, itSeq, itEn, dnewKD, newK, newL, maxKD, yesT, wipeA, cmpI, add_I, sub_I, negA, ok_bind, sizeLine_eq, Nat.reduceLeDiff, eq_I, isi_tup, isi_str, isi_int, isi_boo, len_tup, qlt, qle, qgt, qge, rg_if, ev_ok, ev_bind, ev_if, ev_call, es_nx, es_rt, es_seq, es_then, es_if, List.getElem?_cons_succ, List.getElem?_cons_zero, List.set_cons_succ, List.set_cons_zero, List.length_cons, List.length_nil, List.map_cons, List.map_nil, List.replicate, List.cons_append, List.nil_append, Option.bind_some, Option.map_some, Bool.not_true, Bool.not_false, Bool.false_eq_true, if_true, if_false, decide_true, decide_false, true_and, and_true, Nat.zero_add, Nat.add_zero, Nat.reduceAdd, Nat.reduceSub, reduceIte, Nat.sub_self, Nat.succ_sub_succ_eq_sub, Nat.add_one_sub_one]
      exact is_plain_int
    · rw [List.length_map, show List.replicate zs.length (A.bl true) = (List.replicate zs.length true).map A.bl by rw [List.map_replicate], all_B get_app, ev_ok, show (List.replicate zs.length true).all id = true by rw [List.all_replicate]; split <;> rfl]
      simp only [seqD, raiseD, raiseVD, par3D, ex_bind, ev_ex, es_ex, ifD, retD, retND, dropD, setD, nextD, varD, conD, bin2, un1, testD, boolR, notT, andT, orT, ifE, andV, orV, notV, tupD, lstD, cbD, nilD, consD, asgD, parD, nameG, tupG, consG, nilG, setItD, augD, augItD, methD, forD, whileD, lcD, lc2D, sliceD, someD, noneD, chain3, truD, truR, orTD, andTD, notTD, joinedD, glueD, lstRg, rg1, rg2, itRg1, itRg2, itSeq, itEn, dnewKD, newK, newL, maxKD, yesT, wipeA, cmpI, add_I, sub_I, negA, ok_bind, sizeLine_eq, Nat.reduceLeDiff, eq_I, isi_tup, isi_str, isi_int, isi_boo, len_tup, qlt, qle, qgt, qge, rg_if, ev_ok, ev_bind, ev_if, ev_call, es_nx, es_rt, es_seq, es_then, es_if, List.getElem?_cons_succ, List.getElem?_cons_zero, List.set_cons_succ, List.set_cons_zero, List.length_cons, List.length_nil, List.map_cons, List.map_nil, List.replicate, List.cons_append, List.nil_append, Option.bind_some, Option.map_some, Bool.not_true, Bool.not_false, Bool.false_eq_true, if_true, if_false, decide_true, decide_false, true_and, and_true, Nat.zero_add, Nat.add_zero, Nat.reduceAdd, Nat.reduceSub, reduceIte, Nat.sub_self, Nat.succ_sub_succ_eq_sub, Nat.add_one_sub_one]
      exact Gm.refl.app
  rintro s h' ⟨rfl, g⟩
  refine es_ret ?_
  rw [ev_bin2, ev_cb1]
  show Ev _ (R.ok (A.tup (zs.map A.int)) h') _
  rw [ev_ok]
  have e1 : bSorted [A.tup (zs.map A.int)] h' = newL ((sortI zs).map A.int) h' := by
    have q : (seqOf h' (A.tup (zs.map A.int))).bind intsOf = some zs := ints_I zs
    unfold bSorted
    dsimp only
    rw [q]
  rw [e1, newL, ev_ok]
  have er : lstRg (rg1 (varD 0)) n [some (.int (zs.length : Int)), some (.tup (zs.map A.int)), none] (h' ++ [.lst ((sortI zs).map A.int)]) = newL ((rgI zs.length).map A.int) (h' ++ [.lst ((sortI zs).map A.int)]) := by
    show (R.ok ((0 : Int), (zs.length : Int)) _).bind _ = _
    rw [ok_bind]
    dsimp only
    have ok : rgOk 0 (zs.length : Int) = true := by
      unfold rgOk
      rw [Bool.and_eq_true, Bool.and_eq_true]
      exact ⟨by decide, Nat.blt_eq.mpr (by omega), Nat.ble_eq_true_of_le (by omega)⟩
    rw [if_pos ok, rgL_I]
  rw [er, newL, ev_ok]
  rw [eq_lists (xs := sortI zs) (ys := rgI zs.length) ((Gm.refl (m := none)).app.get get_app) get_app, ev_ok]
  rw [hb]
  exact ⟨rfl, g.app.app⟩
theorem is_any_move_bad {X : Xn → Hs → Prop} {n : Nat} {h : Hs} {a : A} (hn : 5000 ≤ n) (b : badM h a) : Ev X (f_is_any_move n [a] h) fun c h' => c = .bl false ∧ Gm none h h' := by
  have go : ∀ xs : List A, a = .tup xs → 1 ≤ xs.length → xs.length ≤ 24 → Ev X (f_is_move_of n [.int (xs.length : Int), .tup xs] h) (fun c h' => c = .bl false ∧ Gm none h h') → Ev X (f_is_any_move n [a] h) fun c h' => c = .bl false ∧ Gm none h h' := fun xs ea h1 h2 z => by
    subst ea
    refine ev_body rfl ?_
    have h1' : decide ((1 : Int) ≤ (xs.length : Int)) = true := decide_eq_true (by omega)
    have h2' : decide ((xs.length : Int) ≤ 24) = true := decide_eq_true (by omega)
    simp only [d_is_any_move, seqD, raiseD, raiseVD, par3D, ex_bind, ev_ex, es_ex, ifD, retD, retND, dropD, setD, nextD, varD, conD, bin2, un1, testD, boolR, notT, andT, orT, ifE, andV, orV, notV, tupD, lstD, cbD, nilD, consD, asgD, parD, nameG, tupG, consG, nilG, setItD, augD, augItD, methD, forD, whileD, lcD, lc2D, sliceD, someD, noneD, chain3, truD, truR, orTD, andTD, notTD, joinedD, glueD, lstRg, rg1, rg2, itRg1, itRg2, itSeq, itEn, dnewKD, newK, newL, maxKD, yesT, wipeA, cmpI, add_I, sub_I, negA, ok_bind, sizeLine_eq, Nat.reduceLeDiff, eq_I, isi_tup, isi_str, isi_int, isi_boo, len_tup, qlt, qle, qgt, qge, rg_if, ev_ok, ev_bind, ev_if, ev_call, es_nx, es_rt, es_seq, es_then, es_if, List.getElem?_cons_succ, List.getElem?_cons_zero, List.set_cons_succ, List.set_cons_zero, List.length_cons, List.length_nil, List.map_cons, List.map_nil, List.replicate, List.cons_append, List.nil_append, Option.bind_some, Option.map_some, Bool.not_true, Bool.not_false, Bool.false_eq_true, if_true, if_false, decide_true, decide_false, true_and, and_true, Nat.zero_add, Nat.add_zero, Nat.reduceAdd, Nat.reduceSub, reduceIte, Nat.sub_self, Nat.succ_sub_succ_eq_sub, Nat.add_one_sub_one, isT, h1', h2']
    exact z
  rcases b with ⟨t, e, k⟩ | ⟨xs, rfl, hl, hf, hb⟩ | ⟨zs, rfl, h1, h2, hb⟩
  · refine ev_body rfl ?_
    simp only [d_is_any_move, seqD, raiseD, raiseVD, par3D, ex_bind, ev_ex, es_ex, ifD, retD, retND, dropD, setD, nextD, varD, conD, bin2, un1, testD, boolR, notT, andT, orT, ifE, andV, orV, notV, tupD, lstD, cbD, nilD, consD, asgD, parD, nameG, tupG, consG, nilG, setItD, augD, augItD, methD, forD, whileD, lcD, lc2D, sliceD, someD, noneD, chain3, truD, truR, orTD, andTD, notTD, joinedD, glueD, lstRg, rg1, rg2, itRg1, itRg2, itSeq, itEn, dnewKD, newK, newL, maxKD, yesT, wipeA, cmpI, add_I, sub_I, negA, ok_bind, sizeLine_eq, Nat.reduceLeDiff, eq_I, isi_tup, isi_str, isi_int, isi_boo, len_tup, qlt, qle, qgt, qge, rg_if, ev_ok, ev_bind, ev_if, ev_call, es_nx, es_rt, es_seq, es_then, es_if, List.getElem?_cons_succ, List.getElem?_cons_zero, List.set_cons_succ, List.set_cons_zero, List.length_cons, List.length_nil, List.map_cons, List.map_nil, List.replicate, List.cons_append, List.nil_append, Option.bind_some, Option.map_some, Bool.not_true, Bool.not_false, Bool.false_eq_true, if_true, if_false, decide_true, decide_false, true_and, and_true, Nat.zero_add, Nat.add_zero, Nat.reduceAdd, Nat.reduceSub, reduceIte, Nat.sub_self, Nat.succ_sub_succ_eq_sub, Nat.add_one_sub_one, isi_of e k]
    exact Gm.refl
  · cases h1 : decide (1 ≤ xs.length) with
    | false =>
      refine ev_body rfl ?_
      have h1' : decide ((1 : Int) ≤ (xs.length : Int)) = false := decide_eq_false (by have := of_decide_eq_false h1; omega)
      simp only [d_is_any_move, seqD, raiseD, raiseVD, par3D, ex_bind, ev_ex, es_ex, ifD, retD, retND, dropD, setD, nextD, varD, conD, bin2, un1, testD, boolR, notT, andT, orT, ifE, andV, orV, notV, tupD, lstD, cbD, nilD, consD, asgD, parD, nameG, tupG, consG, nilG, setItD, augD, augItD, methD, forD, whileD, lcD, lc2D, sliceD, someD, noneD, chain3, truD, truR, orTD, andTD, notTD, joinedD, glueD, lstRg, rg1, rg2, itRg1, itRg2, itSeq, itEn, dnewKD, newK, newL, maxKD, yesT, wipeA, cmpI, add_I, sub_I, negA, ok_bind, sizeLine_eq, Nat.reduceLeDiff, eq_I, isi_tup, isi_str, isi_int, isi_boo, len_tup, qlt, qle, qgt, qge, rg_if, ev_ok, ev_bind, ev_if, ev_call, es_nx, es_rt, es_seq, es_then, es_if, List.getElem?_cons_succ, List.getElem?_cons_zero, List.set_cons_succ, List.set_cons_zero, List.length_cons, List.length_nil, List.map_cons, List.map_nil, List.replicate, List.cons_append, List.nil_append, Option.bind_some, Option.map_some, Bool.not_true, Bool.not_false, Bool.false_eq_true, if_true, if_false, decide_true, decide_false, true_and, and_true, Nat.zero_add, Nat.add_zero, Nat.reduceAdd, Nat.reduceSub, reduceIte, Nat.sub_self, Nat.succ_sub_succ_eq_sub, Nat.add_one_sub_one, isT, h1']
      exact Gm.refl
    | true =>
    have h1' : decide ((1 : Int) ≤ (xs.length : Int)) = true := decide_eq_true (by have := of_decide_eq_true h1; omega)
    cases h2 : decide (xs.length ≤ 24) with
    | false =>
      refine ev_body rfl ?_
      have h2' : decide ((xs.length : Int) ≤ 24) = false := decide_eq_false (by have := of_decide_eq_false h2; omega)
      simp only [d_is_any_move, seqD, raiseD, raiseVD, par3D, ex_bind, ev_ex, es_ex, ifD, retD, retND, dropD, setD, nextD, varD, conD, bin2, un1, testD, boolR, notT, andT, orT, ifE, andV, orV, notV, tupD, lstD, cbD, nilD, consD, asgD, parD, nameG, tupG, consG, nilG, setItD, augD, augItD, methD, forD, whileD, lcD, lc2D, sliceD, someD, noneD, chain3, truD, truR, orTD, andTD, notTD, joinedD, glueD, lstRg, rg1, rg2, itRg1, itRg2, itSeq, itEn, dnewKD, newK, newL, maxKD, yesT, wipeA, cmpI, add_I, sub_I, negA, ok_bind, sizeLine_eq, Nat.reduceLeDiff, eq_I, isi_tup, isi_str, isi_int, isi_boo, len_tup, qlt, qle, qgt, qge, rg_if, ev_ok, ev_bind, ev_if, ev_call, es_nx, es_rt, es_seq, es_then, es_if, List.getElem?_cons_succ, List.getElem?_cons_zero, List.set_cons_succ, List.set_cons_zero, List.length_cons, List.length_nil, List.map_cons, List.map_nil, List.replicate, List.cons_append, List.nil_append, Option.bind_some, Option.map_some, Bool.not_true, Bool.not_false, Bool.false_eq_true, if_true, if_false, decide_true, decide_false, true_and, and_true, Nat.zero_add, Nat.add_zero, Nat.reduceAdd, Nat.reduceSub, reduceIte, Nat.sub_self, Nat.succ_sub_succ_eq_sub, Nat.add_one_sub_one, isT, h1', h2']
      exact Gm.refl
    | true =>
      rw [h1, h2] at hb
      exact go xs rfl (of_decide_eq_true h1) (of_decide_eq_true h2) (is_move_of_plain hn hl hf hb)
  · refine go _ rfl (by rw [List.length_map]; exact h1) (by rw [List.length_map]; exact h2) ?_
    rw [List.length_map]
    exact is_move_of_sort hn h2 hb
theorem write_move_bad {n : Nat} {h : Hs} {a : A} (hn : 5000 ≤ n) (b : badM h a) : Ev (fun x h' => x = xE "InvalidMove" ∧ Gm none h h') (f_write_move n [a] h) fun _ _ => False := by
  refine ev_body rfl ?_
  unfold d_write_move
  refine step_seq (fun _ _ => False) ?_ (fun _ _ z => z.elim)
  simp only [seqD, raiseD, raiseVD, par3D, ex_bind, ev_ex, es_ex, ifD, retD, retND, dropD, setD, nextD, varD, conD, bin2, un1, testD, boolR, notT, andT, orT, ifE, andV, orV, notV, tupD, lstD, cbD, nilD, consD, asgD, parD, nameG, tupG, consG, nilG, setItD, augD, augItD, methD, forD, whileD, lcD, lc2D, sliceD, someD, noneD, chain3, truD, truR, orTD, andTD, notTD, joinedD, glueD, lstRg, rg1, rg2, itRg1, itRg2, itSeq, itEn, dnewKD, newK, newL, maxKD, yesT, wipeA, cmpI, add_I, sub_I, negA, ok_bind, sizeLine_eq, Nat.reduceLeDiff, eq_I, isi_tup, isi_str, isi_int, isi_boo, len_tup, qlt, qle, qgt, qge, rg_if, ev_ok, ev_bind, ev_if, ev_call, es_nx, es_rt, es_seq, es_then, es_if, List.getElem?_cons_succ, List.getElem?_cons_zero, List.set_cons_succ, List.set_cons_zero, List.length_cons, List.length_nil, List.map_cons, List.map_nil, List.replicate, List.cons_append, List.nil_append, Option.bind_some, Option.map_some, Bool.not_true, Bool.not_false, Bool.false_eq_true, if_true, if_false, decide_true, decide_false, true_and, and_true, Nat.zero_add, Nat.add_zero, Nat.reduceAdd, Nat.reduceSub, reduceIte, Nat.sub_self, Nat.succ_sub_succ_eq_sub, Nat.add_one_sub_one]
  refine (is_any_move_bad hn b).mono fun c h' z => ?_
  obtain ⟨rfl, g⟩ := z
  simp only [seqD, raiseD, raiseVD, par3D, ex_bind, ev_ex, es_ex, ifD, retD, retND, dropD, setD, nextD, varD, conD, bin2, un1, testD, boolR, notT, andT, orT, ifE, andV, orV, notV, tupD, lstD, cbD, nilD, consD, asgD, parD, nameG, tupG, consG, nilG, setItD, augD, augItD, methD, forD, whileD, lcD, lc2D, sliceD, someD, noneD, chain3, truD, truR, orTD, andTD, notTD, joinedD, glueD, lstRg, rg1, rg2, itRg1, itRg2, itSeq, itEn, dnewKD, newK, newL, maxKD, yesT, wipeA, cmpI, add_I, sub_I, negA, ok_bind, sizeLine_eq, Nat.reduceLeDiff, eq_I, isi_tup, isi_str, isi_int, isi_boo, len_tup, qlt, qle, qgt, qge, rg_if, ev_ok, ev_bind, ev_if, ev_call, es_nx, es_rt, es_seq, es_then, es_if, List.getElem?_cons_succ, List.getElem?_cons_zero, List.set_cons_succ, List.set_cons_zero, List.length_cons, List.length_nil, List.map_cons, List.map_nil, List.replicate, List.cons_append, List.nil_append, Option.bind_some, Option.map_some, Bool.not_true, Bool.not_false, Bool.false_eq_true, if_true, if_false, decide_true, decide_false, true_and, and_true, Nat.zero_add, Nat.add_zero, Nat.reduceAdd, Nat.reduceSub, reduceIte, Nat.sub_self, Nat.succ_sub_succ_eq_sub, Nat.add_one_sub_one]
  exact ⟨rfl, g⟩
end Dn

set_option maxHeartbeats 4000000
namespace Dn
open PySem
/-! ### what a call tells -/
/-- the word for what was raised -/
def Tells (x : Xn) (t : Str) : Prop := ∀ h, pickC tb__law_word cs__law_word x h = .ok (.str t) h
theorem tells_move : Tells (xE "InvalidMove") "move" := fun _ => rfl
theorem tells_group : Tells (xE "InvalidGroup") "group" := fun _ => rfl
theorem tells_row : Tells (xE "InvalidRow") "row" := fun _ => rfl
theorem tells_kinds : Tells (xE "InvalidKinds") "kinds" := fun _ => rfl
theorem tells_parse : Tells (pE 0) "parse 0" := fun h => by
  show suRep "ParseError" "parse " "index" (pE 0) h = _
  have e : showA (.int ((0 : Nat) : Int)) = some (Str.ofString "0") := by decide +kernel
  unfold suRep pE
  dsimp only
  rw [e]
  rfl
theorem tells_num {a : A} {t : Str} (e : showA a = some t) (hl : ("number " : Str).length + t.length ≤ sizeLine) : Tells (nE a) (("number " : Str) ++ t) := fun h => by
  show suRep "InvalidNumber" "number " "given" (nE a) h = _
  unfold suRep nE
  dsimp only
  rw [if_pos rfl, if_pos rfl, e]
  dsimp only
  rw [if_pos hl]
theorem word_X {X : Xn → Hs → Prop} {x : Xn} {t : Str} {P : Addr} {q : Str} {i n : Nat} {dE : DE} {s : Sl} {h : Hs} (e : Tells x t) (ht : h[i]? = some (.tab P q)) (hd : Ev (fun y h' => y = x ∧ Gm none h h') (dE n s h) fun _ _ => False) :
    Ev X (lamD P q i F__law_word dE n s h) fun a h' => a = .str t ∧ Gm none h h' := by
  unfold lamD
  rw [ht]
  dsimp only
  rw [if_pos ⟨rfl, rfl⟩]
  refine Ev.calm ?_
  show Ev NoX (wordA tb__law_word cs__law_word (.str "fine") (fun n h => dE n s h) n h) _
  unfold wordA
  dsimp only
  revert hd
  cases dE n s h with
  | ok a h1 => exact fun z => z.elim
  | ex y h1 =>
    rintro ⟨rfl, g⟩
    dsimp only
    rw [e]
    exact ⟨rfl, g⟩
  | no => exact fun z => z.elim
theorem word_fine {X : Xn → Hs → Prop} {P : Addr} {q : Str} {i n : Nat} {dE : DE} {s : Sl} {h : Hs} (ht : h[i]? = some (.tab P q)) (hd : Ev NoX (dE n s h) fun _ h' => Gm none h h') :
    Ev X (lamD P q i F__law_word dE n s h) fun a h' => a = .str "fine" ∧ Gm none h h' := by
  unfold lamD
  rw [ht]
  dsimp only
  rw [if_pos ⟨rfl, rfl⟩]
  refine Ev.calm ?_
  show Ev NoX (wordA tb__law_word cs__law_word (.str "fine") (fun n h => dE n s h) n h) _
  unfold wordA
  dsimp only
  revert hd
  cases dE n s h with
  | ok a h1 => exact fun g => ⟨rfl, g⟩
  | ex y h1 => exact fun z => z.elim
  | no => exact fun z => z.elim
/-! ### table_lines of what is no group -/
theorem table_lines_bad {n : Nat} {h : Hs} {a : A} {t : String} (e : tyName h a = some t) (k : t ∈ kinds7) : g_table_lines n [a] h = .ex (xE "InvalidGroup") h := by
  show firstD 1 4 d_table_lines n [a] h = _
  unfold firstD
  rw [if_pos (show [a].length = 1 from rfl)]
  have q : d_table_lines n ([a].map some ++ List.replicate (4 - 1) none) h = .ex (xE "InvalidGroup") [some a, none, none, none] h := by
    unfold d_table_lines dropD callD
    simp only [seqD, raiseD, raiseVD, par3D, ex_bind, ev_ex, es_ex, ifD, retD, retND, dropD, setD, nextD, varD, conD, bin2, un1, testD, boolR, notT, andT, orT, ifE, andV, orV, notV, tupD, lstD, cbD, nilD, consD, asgD, parD, nameG, tupG, consG, nilG, setItD, augD, augItD, methD, forD, whileD, lcD, lc2D, sliceD, someD, noneD, chain3, truD, truR, orTD, andTD, notTD, joinedD, glueD, lstRg, rg1, rg2, itRg1, itRg2, itSeq, itEn, dnewKD, newK, newL, maxKD, yesT, wipeA, cmpI, add_I, sub_I, negA, ok_bind, sizeLine_eq, Nat.reduceLeDiff, eq_I, isi_tup, isi_str, isi_int, isi_boo, len_tup, qlt, qle, qgt, qge, rg_if, ev_ok, ev_bind, ev_if, ev_call, es_nx, es_rt, es_seq, es_then, es_if, List.getElem?_cons_succ, List.getElem?_cons_zero, List.set_cons_succ, List.set_cons_zero, List.length_cons, List.length_nil, List.map_cons, List.map_nil, List.replicate, List.cons_append, List.nil_append, Option.bind_some, Option.map_some, Bool.not_true, Bool.not_false, Bool.false_eq_true, if_true, if_false, decide_true, decide_false, true_and, and_true, Nat.zero_add, Nat.add_zero, Nat.reduceAdd, Nat.reduceSub, reduceIte, Nat.sub_self, Nat.succ_sub_succ_eq_sub, Nat.add_one_sub_one, require_group_bad e k]
    rfl
  rw [q]
end Dn

set_option maxHeartbeats 4000000
namespace Dn
open PySem
theorem Bag.app {h : Hs} {b k : Nat} {o : AO} (B : Bag h b k) : Bag (h ++ [o]) b k := by
  obtain ⟨x, y, z, e, r⟩ := B
  exact ⟨x, y, z, (Gm.refl (m := none)).app.get e, r⟩
theorem Bag.lt {h : Hs} {b k : Nat} (B : Bag h b k) : b < h.length := by
  obtain ⟨x, y, z, e, r⟩ := B
  exact lt_of_get e
/-- one of the items of a list just made -/
theorem one_mem {X : Xn → Hs → Prop} {n : Nat} {h : Hs} {b k : Nat} {xs : List A} (B : Bag h b k) (hk : k ≤ 100000) (h1 : 1 ≤ xs.length) (h2 : xs.length < 9000) :
    Ev X (f__law_one_of n [.ref b, .ref h.length] (h ++ [.lst xs])) fun a h' => a ∈ xs ∧ Bag h' b (k + 1) ∧ Gm (some b) h h' := by
  refine (one_of_ok B.app hk get_app (fun z => by have := B.lt; omega) h1 h2).mono fun a h' q => ?_
  obtain ⟨⟨v, e⟩, B', g⟩ := q
  exact ⟨List.mem_of_getElem? e, B', (Gm.refl.app (m := some b)).trans g⟩
theorem ty_lst {h h' : Hs} {b p : Nat} {xs : List A} (e : h[p]? = some (.lst xs)) (g : Gm (some b) h h') (hp : p ≠ b) : tyName h' (.ref p) = some "list" := by
  unfold tyName
  dsimp only
  rw [g.get e (by simp [hp])]
theorem pick_move {X : Xn → Hs → Prop} {n k b : Nat} {h : Hs} {r : Sl} (hn : 5000 ≤ n) (B : Bag h b k) (hk : k ≤ 100000) :
    Ev X (((callD 2 f__law_one_of (consD (varD 0) (consD (lstD (consD (conD .non) (consD (tupD nilD) (consD (tupD (consD (conD (.int 0)) (consD (conD (.int 0)) nilD))) (consD (tupD (consD (conD (.int 1)) (consD (conD (.int 2)) nilD))) (consD (lstD (consD (conD (.int 0)) (consD (conD (.int 1)) nilD))) (consD (tupD (consD (conD (.bl true)) (consD (conD (.int 0)) nilD))) (consD (tupRg (rg1 (conD (.int 25)))) (consD (conD (.str "()")) (consD (conD (.int 3)) (consD (tupD (consD (conD (.int 0)) (consD (conD (.int 2)) nilD))) (consD dnewKD (consD (tupD (consD (un1 negA (conD (.int 1))) (consD (conD (.int 0)) nilD))) (consD (tupD (consD (tupD (consD (conD (.int 0)) nilD)) nilD)) nilD)))))))))))))) nilD)))) n (some (.ref b) :: r) h) fun a h' => badM h' a ∧ a ≠ .ref b ∧ Bag h' b (k + 1) ∧ Gm (some b) h h' := by
  simp only [seqD, raiseD, raiseVD, par3D, ex_bind, ev_ex, es_ex, ifD, retD, retND, dropD, setD, nextD, varD, conD, bin2, un1, testD, boolR, notT, andT, orT, ifE, andV, orV, notV, tupD, lstD, cbD, nilD, consD, asgD, parD, nameG, tupG, consG, nilG, setItD, augD, augItD, methD, forD, whileD, lcD, lc2D, sliceD, someD, noneD, chain3, truD, truR, orTD, andTD, notTD, joinedD, glueD, lstRg, rg1, rg2, itRg1, itRg2, itSeq, itEn, dnewKD, newK, newL, maxKD, yesT, wipeA, cmpI, add_I, sub_I, negA, ok_bind, sizeLine_eq, Nat.reduceLeDiff, eq_I, isi_tup, isi_str, isi_int, isi_boo, len_tup, qlt, qle, qgt, qge, rg_if, ev_ok, ev_bind, ev_if, ev_call, es_nx, es_rt, es_seq, es_then, es_if, List.getElem?_cons_succ, List.getElem?_cons_zero, List.set_cons_succ, List.set_cons_zero, List.length_cons, List.length_nil, List.map_cons, List.map_nil, List.replicate, List.cons_append, List.nil_append, Option.bind_some, Option.map_some, Bool.not_true, Bool.not_false, Bool.false_eq_true, if_true, if_false, decide_true, decide_false, true_and, and_true, Nat.zero_add, Nat.add_zero, Nat.reduceAdd, Nat.reduceSub, reduceIte, Nat.sub_self, Nat.succ_sub_succ_eq_sub, Nat.add_one_sub_one, dnewKD]
  have rg : tupRg (rg1 (conD (.int 25))) n (some (.ref b) :: r) (h ++ [AO.lst [A.int 0, A.int 1]]) = R.ok (.tup ((rgI 25).map A.int)) (h ++ [AO.lst [A.int 0, A.int 1]]) := rfl
  rw [rg, ev_ok]
  have hb := B.lt
  refine (one_mem B.app.app hk (by simp) (by simp)).mono fun a h' q => ?_
  obtain ⟨q, B', g⟩ := q
  have nb : a ≠ .ref b := by
    rintro rfl
    simp at q
    omega
  refine ⟨?_, nb, B', (Gm.refl.app.app (m := some b)).trans g⟩
  have t1 : tyName h' (.ref h.length) = some "list" := by
    unfold tyName
    dsimp only
    rw [g.get ((Gm.refl (m := none)).app.get get_app) (by simp; omega)]
  have t2 : tyName h' (.ref (h ++ [AO.lst [A.int 0, A.int 1]]).length) = some "dict" := by
    unfold tyName
    dsimp only
    rw [g.get get_app (by simp; omega)]
  have nt : ∀ a t, tyName h' a = some t → L2.kitB t "tuple" = some false → badM h' a := fun a t e k => Or.inl ⟨t, e, k⟩
  have np : ∀ xs : List A, xs.length ≤ 100 → xs.all flatB = true → ((decide (1 ≤ xs.length) && decide (xs.length ≤ 24)) && xs.all fun x => !noPlain x) = false → badM h' (.tup xs) := fun xs a b c => Or.inr (Or.inl ⟨xs, rfl, a, b, c⟩)
  have ns : ∀ zs : List Int, 1 ≤ zs.length → zs.length ≤ 24 → PyData.eqv (.list ((sortI zs).map PyData.int)) (.list ((rgI zs.length).map PyData.int)) = false → badM h' (.tup (zs.map A.int)) := fun zs a b c => Or.inr (Or.inr ⟨zs, rfl, a, b, c⟩)
  simp only [List.mem_cons, List.not_mem_nil, or_false] at q
  rcases q with rfl | rfl | rfl | rfl | rfl | rfl | rfl | rfl | rfl | rfl | rfl | rfl | rfl
  · exact nt _ "NoneType" rfl rfl
  · exact np _ (by decide) (by decide) (by decide)
  · exact ns [0, 0] (by decide) (by decide) (by decide +kernel)
  · exact ns [1, 2] (by decide) (by decide) (by decide +kernel)
  · exact nt _ "list" t1 rfl
  · exact np _ (by decide) (by decide) (by decide)
  · exact np _ (by decide) (by decide +kernel) (by decide +kernel)
  · exact nt _ "str" rfl rfl
  · exact nt _ "int" rfl rfl
  · exact ns [0, 2] (by decide) (by decide) (by decide +kernel)
  · exact nt _ "dict" t2 rfl
  · exact ns [-1, 0] (by decide) (by decide) (by decide +kernel)
  · exact np _ (by decide) (by decide) (by decide)
theorem pick_group {X : Xn → Hs → Prop} {n k b : Nat} {h : Hs} {r : Sl} (hn : 5000 ≤ n) (B : Bag h b k) (hk : k ≤ 100000) :
    Ev X (((callD 2 f__law_one_of (consD (varD 0) (consD (lstD (consD (conD .non) (consD (tupD nilD) (consD (conD (.str "2:")) (consD (conD (.int 2)) (consD (tupD (consD (conD (.int 2)) (consD (tupD nilD) nilD))) (consD (lstD nilD) (consD dnewKD (consD (tupD (consD (tupD (consD (conD (.int 1)) (consD (conD (.int 0)) nilD))) nilD)) nilD))))))))) nilD)))) n (some (.ref b) :: r) h) fun a h' => (∃ t, tyName h' a = some t ∧ t ∈ kinds7) ∧ a ≠ .ref b ∧ Bag h' b (k + 1) ∧ Gm (some b) h h' := by
  simp only [seqD, raiseD, raiseVD, par3D, ex_bind, ev_ex, es_ex, ifD, retD, retND, dropD, setD, nextD, varD, conD, bin2, un1, testD, boolR, notT, andT, orT, ifE, andV, orV, notV, tupD, lstD, cbD, nilD, consD, asgD, parD, nameG, tupG, consG, nilG, setItD, augD, augItD, methD, forD, whileD, lcD, lc2D, sliceD, someD, noneD, chain3, truD, truR, orTD, andTD, notTD, joinedD, glueD, lstRg, rg1, rg2, itRg1, itRg2, itSeq, itEn, dnewKD, newK, newL, maxKD, yesT, wipeA, cmpI, add_I, sub_I, negA, ok_bind, sizeLine_eq, Nat.reduceLeDiff, eq_I, isi_tup, isi_str, isi_int, isi_boo, len_tup, qlt, qle, qgt, qge, rg_if, ev_ok, ev_bind, ev_if, ev_call, es_nx, es_rt, es_seq, es_then, es_if, List.getElem?_cons_succ, List.getElem?_cons_zero, List.set_cons_succ, List.set_cons_zero, List.length_cons, List.length_nil, List.map_cons, List.map_nil, List.replicate, List.cons_append, List.nil_append, Option.bind_some, Option.map_some, Bool.not_true, Bool.not_false, Bool.false_eq_true, if_true, if_false, decide_true, decide_false, true_and, and_true, Nat.zero_add, Nat.add_zero, Nat.reduceAdd, Nat.reduceSub, reduceIte, Nat.sub_self, Nat.succ_sub_succ_eq_sub, Nat.add_one_sub_one, dnewKD]
  have hb := B.lt
  refine (one_mem B.app.app hk (by simp) (by simp)).mono fun a h' q => ?_
  obtain ⟨q, B', g⟩ := q
  have nb : a ≠ .ref b := by
    rintro rfl
    simp at q
    omega
  refine ⟨?_, nb, B', (Gm.refl.app.app (m := some b)).trans g⟩
  have t1 : tyName h' (.ref h.length) = some "list" := by
    unfold tyName
    dsimp only
    rw [g.get ((Gm.refl (m := none)).app.get get_app) (by simp; omega)]
  have t2 : tyName h' (.ref (h ++ [AO.lst []]).length) = some "dict" := by
    unfold tyName
    dsimp only
    rw [g.get get_app (by simp; omega)]
  have nt : ∀ a t, tyName h' a = some t → t ∈ kinds7 → ∃ t, tyName h' a = some t ∧ t ∈ kinds7 := fun a t e k => ⟨t, e, k⟩
  simp only [List.mem_cons, List.not_mem_nil, or_false] at q
  rcases q with rfl | rfl | rfl | rfl | rfl | rfl | rfl | rfl
  · exact nt _ "NoneType" rfl (by decide +kernel)
  · exact nt _ "tuple" rfl (by decide +kernel)
  · exact nt _ "str" rfl (by decide +kernel)
  · exact nt _ "int" rfl (by decide +kernel)
  · exact nt _ "tuple" rfl (by decide +kernel)
  · exact nt _ "list" t1 (by decide +kernel)
  · exact nt _ "dict" t2 (by decide +kernel)
  · exact nt _ "tuple" rfl (by decide +kernel)
def tp60 : Int := 1000000000000000000000000000000000000000000000000000000000000
theorem pow60 {h : Hs} : intA powI (.int 10) (.int 60) h = .ok (.int tp60) h := by
  have e1 : powI 10 60 = some tp60 := by decide +kernel
  show (match powI 10 60 with
    | some k => R.ok (A.int k) h
    | none => .no) = _
  rw [e1]
theorem good_p : goodB tp60 = false := by decide +kernel
theorem good_m : goodB (-tp60) = false := by decide +kernel
theorem mul61 {h : Hs} : mulA (.tup [.int 0]) (.int 61) h = .ok (.tup (List.replicate 61 [A.int 0]).flatten) h := rfl
theorem pick_row {X : Xn → Hs → Prop} {n k b : Nat} {h : Hs} {r : Sl} (hn : 5000 ≤ n) (B : Bag h b k) (hk : k ≤ 100000) :
    Ev X (((callD 2 f__law_one_of (consD (varD 0) (consD (lstD (consD (conD .non) (consD (tupD nilD) (consD (bin2 mulA (tupD (consD (conD (.int 0)) nilD)) (conD (.int 61))) (consD (lstD (consD (conD (.int 1)) nilD)) (consD (tupD (consD (conD (.int 1)) (consD (conD .non) nilD))) (consD (tupD (consD (bin2 (intA powI) (conD (.int 10)) (conD (.int 60))) nilD)) (consD (tupD (consD (conD (.bl true)) nilD)) (consD (conD (.str "1")) (consD (conD (.int 1)) (consD dnewKD (consD (tupD (consD (un1 negA (bin2 (intA powI) (conD (.int 10)) (conD (.int 60)))) nilD)) (consD (tupD (consD (tupD (consD (conD (.int 1)) nilD)) nilD)) (consD (tupD (consD (conD (.str "1")) nilD)) nilD)))))))))))))) nilD)))) n (some (.ref b) :: r) h) fun a h' => badR h' a ∧ a ≠ .ref b ∧ Bag h' b (k + 1) ∧ Gm (some b) h h' := by
  simp only [seqD, raiseD, raiseVD, par3D, ex_bind, ev_ex, es_ex, ifD, retD, retND, dropD, setD, nextD, varD, conD, bin2, un1, testD, boolR, notT, andT, orT, ifE, andV, orV, notV, tupD, lstD, cbD, nilD, consD, asgD, parD, nameG, tupG, consG, nilG, setItD, augD, augItD, methD, forD, whileD, lcD, lc2D, sliceD, someD, noneD, chain3, truD, truR, orTD, andTD, notTD, joinedD, glueD, lstRg, rg1, rg2, itRg1, itRg2, itSeq, itEn, dnewKD, newK, newL, maxKD, yesT, wipeA, cmpI, add_I, sub_I, negA, ok_bind, sizeLine_eq, Nat.reduceLeDiff, eq_I, isi_tup, isi_str, isi_int, isi_boo, len_tup, qlt, qle, qgt, qge, rg_if, ev_ok, ev_bind, ev_if, ev_call, es_nx, es_rt, es_seq, es_then, es_if, List.getElem?_cons_succ, List.getElem?_cons_zero, List.set_cons_succ, List.set_cons_zero, List.length_cons, List.length_nil, List.map_cons, List.map_nil, List.replicate, List.cons_append, List.nil_append, Option.bind_some, Option.map_some, Bool.not_true, Bool.not_false, Bool.false_eq_true, if_true, if_false, decide_true, decide_false, true_and, and_true, Nat.zero_add, Nat.add_zero, Nat.reduceAdd, Nat.reduceSub, reduceIte, Nat.sub_self, Nat.succ_sub_succ_eq_sub, Nat.add_one_sub_one, dnewKD]
  rw [mul61, ev_ok, pow60, ev_ok, pow60, ev_ok]
  dsimp only
  rw [ev_ok]
  have hb := B.lt
  refine (one_mem B.app.app hk (by simp) (by simp)).mono fun a h' q => ?_
  obtain ⟨q, B', g⟩ := q
  have nb : a ≠ .ref b := by
    rintro rfl
    simp at q
    omega
  refine ⟨?_, nb, B', (Gm.refl.app.app (m := some b)).trans g⟩
  have t1 : tyName h' (.ref h.length) = some "list" := by
    unfold tyName
    dsimp only
    rw [g.get ((Gm.refl (m := none)).app.get get_app) (by simp; omega)]
  have t2 : tyName h' (.ref (h ++ [AO.lst [A.int 1]]).length) = some "dict" := by
    unfold tyName
    dsimp only
    rw [g.get get_app (by simp; omega)]
  have nt : ∀ a t, tyName h' a = some t → L2.kitB t "tuple" = some false → badR h' a := fun a t e k => Or.inl ⟨t, e, k⟩
  have np : ∀ xs : List A, xs.length ≤ 100 → xs.all flatB = true → ((decide (1 ≤ xs.length) && decide (xs.length ≤ 60)) && xs.all intB) = false → badR h' (.tup xs) := fun xs a b c => Or.inr ⟨xs, rfl, a, b, c⟩
  simp only [List.mem_cons, List.not_mem_nil, or_false] at q
  rcases q with rfl | rfl | rfl | rfl | rfl | rfl | rfl | rfl | rfl | rfl | rfl | rfl | rfl
  · exact nt _ "NoneType" rfl rfl
  · exact np _ (by decide) (by decide) (by decide)
  · exact np _ (by decide +kernel) (by decide +kernel) (by decide +kernel)
  · exact nt _ "list" t1 rfl
  · exact np _ (by decide) (by decide) (by decide +kernel)
  · exact np [.int tp60] (by decide) rfl (by simp [intB, good_p])
  · exact np _ (by decide) (by decide) (by decide +kernel)
  · exact nt _ "str" rfl rfl
  · exact nt _ "int" rfl rfl
  · exact nt _ "dict" t2 rfl
  · exact np [.int (-tp60)] (by decide) rfl (by simp [intB, good_m])
  · exact np _ (by decide) (by decide) (by decide)
  · exact np _ (by decide) (by decide) (by decide)
end Dn

set_option maxHeartbeats 4000000
namespace Dn
open PySem
theorem badM_keep {h h' : Hs} {m : Option Nat} {a : A} (b : badM h a) (g : Gm m h h') (hm : ∀ i, m = some i → a ≠ .ref i) : badM h' a := by
  rcases b with ⟨t, e, k⟩ | z
  · exact Or.inl ⟨t, ty_keep e g hm, k⟩
  · exact Or.inr z
theorem badR_keep {h h' : Hs} {m : Option Nat} {a : A} (b : badR h a) (g : Gm m h h') (hm : ∀ i, m = some i → a ≠ .ref i) : badR h' a := by
  rcases b with ⟨t, e, k⟩ | z
  · exact Or.inl ⟨t, ty_keep e g hm, k⟩
  · exact Or.inr z
/-- a bag is no item -/
theorem not_bag {h : Hs} {b k : Nat} {a : A} (B : Bag h b k) (z : a = .ref b → False) : ∀ i, some b = some i → a ≠ .ref i := fun i e q => z (by cases e; exact q)
/-- one more word is told -/
theorem tell_more {n p : Nat} {s : Sl} {h0 h : Hs} {xs : List A} {t : Str} {dE : DE} {T : Tl} {v : Nat} (hs : s[v]? = some (some (.ref p))) (hp : h[p]? = some (.lst xs)) (hl : xs.length < 1000) (h0p : h0.length ≤ p) (g : Gm none h0 h)
    (w : Ev (fun x h' => T.ex x s h') (dE n s h) fun a h' => a = .str t ∧ Gm none h h')
    (q : ∀ h', h'[p]? = some (.lst (xs ++ [.str t])) → Gm none h0 h' → T.nx s h') : EvS (dropD (methD "list" mAppend (varD v) (consD dE nilD)) n s h) T := by
  unfold dropD methD varD consD nilD
  simp only [hs]
  rw [ok_bind, tyA_ref hp]
  simp only [if_true]
  rw [es_then, ev_bind, ev_bind]
  refine w.mono fun a h1 z => ?_
  obtain ⟨rfl, g1⟩ := z
  have hp1 := g1.get hp
  rw [ok_bind, ev_ok, app_ref hp1 (by omega), ev_ok, es_nx]
  exact q _ (get_set hp1) ((g.trans g1).set (Or.inl h0p))
end Dn

set_option maxHeartbeats 4000000
namespace Dn
open PySem
theorem Bag.keepN {h h' : Hs} {b k : Nat} (B : Bag h b k) (g : Gm none h h') : Bag h' b k := by
  obtain ⟨x, y, z, e, r⟩ := B
  exact ⟨x, y, z, g.get e, r⟩
theorem Ev.ofEx {α : Type} {Q : α → Hs → Prop} {x : Xn} {h : Hs} {r : R α} (e : r = .ex x h) : Ev (fun y h' => y = x ∧ Gm none h h') r Q := by
  rw [e]
  exact ⟨rfl, Gm.refl⟩
theorem call_1 {X : Xn → Hs → Prop} {G : DF} {n v : Nat} {s : Sl} {h : Hs} {a : A} {Q : A → Hs → Prop} (hs : s[v]? = some (some a)) (w : Ev X (G n [a] h) Q) : Ev X (callD 1 G (consD (varD v) nilD) n s h) Q := by
  rw [ev_call, ev_cons1]
  unfold varD
  rw [hs]
  exact ⟨rfl, w⟩
theorem gen_1 {G : DF} {n v : Nat} {s : Sl} {h : Hs} {a : A} {c : Str} {Q : A → Hs → Prop} (hs : s[v]? = some (some a)) (w : G n [a] h = .ex (xE c) h) : Ev (fun y h' => y = xE c ∧ Gm none h h') (genD c 1 G (consD (varD v) nilD) n s h) Q := by
  unfold genD
  rw [ev_bind, ev_cons1]
  unfold varD
  rw [hs]
  dsimp only
  rw [ev_ok, if_pos (show [a].length = 1 from rfl), w]
  dsimp only
  rw [if_pos (show (xE c).cls = c from rfl)]
  exact ⟨rfl, Gm.refl⟩
theorem wordsW : PyData.canLayAll0 ([.str "move", .str "group", .str "row", .str "kinds", .str "group"] : List PyData) = true ∧ PyData.depthAll ([.str "move", .str "group", .str "row", .str "kinds", .str "group"] : List PyData) ≤ 0 := by decide +kernel
theorem written_right_ok {n b k : Nat} {h : Hs} {P : Addr} (hn : 5000 ≤ n) (B : Bag h b k) (hk : k ≤ 50000) (ht : h[0]? = some (.tab P ((("_law_written_right" : Str) ++ (".<locals>." : Str)) ++ ("<lambda>" : Str)))) :
    Ev NoX (f__law_written_right P n [.ref b] h) fun a h' => a = .bl true ∧ Bag h' b (k + 3) ∧ Gm (some b) h h' := by
  have hb0 := B.ne_tab ht
  refine ev_body rfl ?_
  unfold d__law_written_right
  refine step_seq (fun s h' => ∃ m : A, s = [some (.ref b), some m, none, none, none] ∧ badM h' m ∧ m ≠ .ref b ∧ Bag h' b (k + 1) ∧ Gm (some b) h h') ?_ ?_
  · unfold setD
    rw [es_then]
    refine (pick_move hn B (by omega)).mono fun a h1 z => ?_
    rw [es_nx]
    exact ⟨a, rfl, z⟩
  rintro s h1 ⟨m, rfl, bm, nm, B1, g1⟩
  refine step_seq (fun s h' => ∃ (gr : A) (t : String), s = [some (.ref b), some m, some gr, none, none] ∧ tyName h' gr = some t ∧ t ∈ kinds7 ∧ badM h' m ∧ gr ≠ .ref b ∧ Bag h' b (k + 2) ∧ Gm (some b) h h') ?_ ?_
  · unfold setD
    rw [es_then]
    refine (pick_group hn B1 (by omega)).mono fun a h2 z => ?_
    obtain ⟨⟨t, e, kt⟩, na, B2, g2⟩ := z
    rw [es_nx]
    exact ⟨a, t, rfl, e, kt, badM_keep bm g2 (fun i e q => by cases e; exact nm q), na, B2, g1.trans g2⟩
  rintro s h2 ⟨gr, t, rfl, et, kt, bm, ng, B2, g2⟩
  refine step_seq (fun s h' => ∃ r : A, s = [some (.ref b), some m, some gr, some r, none] ∧ badR h' r ∧ tyName h' gr = some t ∧ badM h' m ∧ Bag h' b (k + 3) ∧ Gm (some b) h h') ?_ ?_
  · unfold setD
    rw [es_then]
    refine (pick_row hn B2 (by omega)).mono fun a h3 z => ?_
    obtain ⟨br, na, B3, g3⟩ := z
    rw [es_nx]
    exact ⟨a, rfl, br, ty_keep et g3 (fun i e q => by cases e; exact ng q), badM_keep bm g3 (fun i e q => by cases e; exact nm q), B3, g2.trans g3⟩
  rintro s h3 ⟨r, rfl, br, et, bm, B3, g3⟩
  have ht3 := g3.get ht (by simp [hb0])
  have none_no : ∀ i, (none : Option Nat) = some i → ∀ {a : A}, a ≠ .ref i := fun i e => by cases e
  -- the first word
  refine step_seq (fun s h' => ∃ p : Nat, s = [some (.ref b), some m, some gr, some r, some (.ref p)] ∧ h3.length ≤ p ∧ h'[p]? = some (.lst [.str "move"]) ∧ Gm none h3 h') ?_ ?_
  · unfold setD
    rw [es_then]
    refine ev_lst ?_
    rw [ev_cons1]
    refine (word_X tells_move ht3 (call_1 rfl (write_move_bad hn bm))).mono fun a h4 z => ?_
    obtain ⟨rfl, g4⟩ := z
    refine ⟨by decide, ?_⟩
    rw [es_nx]
    exact ⟨h4.length, rfl, g4.1, get_app, g4.app⟩
  rintro s h4 ⟨p, rfl, hp, e4, g4⟩
  -- the other four
  have tab : ∀ h', Gm none h3 h' → h'[0]? = some (.tab P ((("_law_written_right" : Str) ++ (".<locals>." : Str)) ++ ("<lambda>" : Str))) := fun h' g => g.get ht3
  refine step_seq (fun s h' => s = [some (.ref b), some m, some gr, some r, some (.ref p)] ∧ h'[p]? = some (.lst [.str "move", .str "group"]) ∧ Gm none h3 h') ?_ ?_
  · exact tell_more (v := 4) rfl e4 (by decide) hp g4 (word_X tells_group (tab _ g4) (call_1 rfl (Ev.ofEx (write_group_bad (ty_keep et g4 (fun i e => none_no i e)) kt)))) fun h' a c => ⟨rfl, a, c⟩
  rintro s h5 ⟨rfl, e5, g5⟩
  refine step_seq (fun s h' => s = [some (.ref b), some m, some gr, some r, some (.ref p)] ∧ h'[p]? = some (.lst [.str "move", .str "group", .str "row"]) ∧ Gm none h3 h') ?_ ?_
  · exact tell_more (v := 4) rfl e5 (by decide) hp g5 (word_X tells_row (tab _ g5) (call_1 rfl (write_row_bad hn (badR_keep br g5 (fun i e => none_no i e))))) fun h' a c => ⟨rfl, a, c⟩
  rintro s h6 ⟨rfl, e6, g6⟩
  refine step_seq (fun s h' => s = [some (.ref b), some m, some gr, some r, some (.ref p)] ∧ h'[p]? = some (.lst [.str "move", .str "group", .str "row", .str "kinds"]) ∧ Gm none h3 h') ?_ ?_
  · exact tell_more (v := 4) rfl e6 (by decide) hp g6 (word_X tells_kinds (tab _ g6) (call_1 rfl (write_kinds_bad hn (badR_keep br g6 (fun i e => none_no i e))))) fun h' a c => ⟨rfl, a, c⟩
  rintro s h7 ⟨rfl, e7, g7⟩
  refine step_seq (fun s h' => s = [some (.ref b), some m, some gr, some r, some (.ref p)] ∧ h'[p]? = some (.lst [.str "move", .str "group", .str "row", .str "kinds", .str "group"]) ∧ Gm none h3 h') ?_ ?_
  · exact tell_more (v := 4) rfl e7 (by decide) hp g7 (word_X tells_group (tab _ g7) (gen_1 rfl (table_lines_bad (ty_keep et g7 (fun i e => none_no i e)) kt))) fun h' a c => ⟨rfl, a, c⟩
  rintro s h8 ⟨rfl, e8, g8⟩
  refine es_ret ?_
  simp only [seqD, raiseD, raiseVD, par3D, ex_bind, ev_ex, es_ex, ifD, retD, retND, dropD, setD, nextD, varD, conD, bin2, un1, testD, boolR, notT, andT, orT, ifE, andV, orV, notV, tupD, lstD, cbD, nilD, consD, asgD, parD, nameG, tupG, consG, nilG, setItD, augD, augItD, methD, forD, whileD, lcD, lc2D, sliceD, someD, noneD, chain3, truD, truR, orTD, andTD, notTD, joinedD, glueD, lstRg, rg1, rg2, itRg1, itRg2, itSeq, itEn, dnewKD, newK, newL, maxKD, yesT, wipeA, cmpI, add_I, sub_I, negA, ok_bind, sizeLine_eq, Nat.reduceLeDiff, eq_I, isi_tup, isi_str, isi_int, isi_boo, len_tup, qlt, qle, qgt, qge, rg_if, ev_ok, ev_bind, ev_if, ev_call, es_nx, es_rt, es_seq, es_then, es_if, List.getElem?_cons_succ, List.getElem?_cons_zero, List.set_cons_succ, List.set_cons_zero, List.length_cons, List.length_nil, List.map_cons, List.map_nil, List.replicate, List.cons_append, List.nil_append, Option.bind_some, Option.map_some, Bool.not_true, Bool.not_false, Bool.false_eq_true, if_true, if_false, decide_true, decide_false, true_and, and_true, Nat.zero_add, Nat.add_zero, Nat.reduceAdd, Nat.reduceSub, reduceIte, Nat.sub_self, Nat.succ_sub_succ_eq_sub, Nat.add_one_sub_one]
  rw [eq_same (ds := [.str "move", .str "group", .str "row", .str "kinds", .str "group"]) ((Gm.refl (m := none)).app.get e8) get_app (fun f => rfl) (shaped_list wordsW (by decide)), ev_ok]
  exact ⟨rfl, B3.keepN g8.app, g3.trans g8.app.weak⟩
end Dn

set_option maxHeartbeats 4000000
namespace Dn
open PySem
/-! ### what read_right draws -/
theorem repS_len (z : Str) (k : Int) : (repS z k).length = z.length * k.toNat := by
  show (List.replicate k.toNat z.cps.toList).flatten.toArray.size = z.cps.size * k.toNat
  rw [List.size_toArray, List.length_flatten, List.map_replicate, List.sum_replicate_nat, Array.length_toList, Nat.mul_comm]
theorem mul_str {z : Str} {k : Int} {h : Hs} (e : 2 ≤ k ∧ k ≤ 4000 ∧ 1 ≤ z.length ∧ z.length ≤ 1000) : mulA (.str z) (.int k) h = .ok (.str (repS z k)) h := by
  unfold mulA
  dsimp only
  rw [if_pos e]
theorem pick_none {X : Xn → Hs → Prop} {n k b : Nat} {h : Hs} {r : Sl} (hn : 5000 ≤ n) (B : Bag h b k) (hk : k ≤ 100000) :
    Ev X (((callD 2 f__law_one_of (consD (varD 0) (consD (lstD (consD (conD .non) (consD (conD (.int 0)) (consD (tupD nilD) (consD (tupD (consD (conD (.str "()")) nilD)) (consD (lstD (consD (conD (.str "0")) nilD)) (consD dnewKD (consD (conD (.bl true)) (consD (bin2 mulA (conD (.str "0,")) (conD (.int 1501))) (consD (bin2 mulA (conD (.str "(")) (conD (.int 3001))) (consD (bin2 mulA (conD (.str "1")) (conD (.int 3001))) (consD (tupD (consD (conD (.str "1")) nilD)) nilD)))))))))))) nilD)))) n (some (.ref b) :: r) h) fun a h' => badT h' a ∧ a ≠ .ref b ∧ Bag h' b (k + 1) ∧ Gm (some b) h h' := by
  simp only [seqD, raiseD, raiseVD, par3D, ex_bind, ev_ex, es_ex, ifD, retD, retND, dropD, setD, nextD, varD, conD, bin2, un1, testD, boolR, notT, andT, orT, ifE, andV, orV, notV, tupD, lstD, cbD, nilD, consD, asgD, parD, nameG, tupG, consG, nilG, setItD, augD, augItD, methD, forD, whileD, lcD, lc2D, sliceD, someD, noneD, chain3, truD, truR, orTD, andTD, notTD, joinedD, glueD, lstRg, rg1, rg2, itRg1, itRg2, itSeq, itEn, dnewKD, newK, newL, maxKD, yesT, wipeA, cmpI, add_I, sub_I, negA, ok_bind, sizeLine_eq, Nat.reduceLeDiff, eq_I, isi_tup, isi_str, isi_int, isi_boo, len_tup, qlt, qle, qgt, qge, rg_if, ev_ok, ev_bind, ev_if, ev_call, es_nx, es_rt, es_seq, es_then, es_if, List.getElem?_cons_succ, List.getElem?_cons_zero, List.set_cons_succ, List.set_cons_zero, List.length_cons, List.length_nil, List.map_cons, List.map_nil, List.replicate, List.cons_append, List.nil_append, Option.bind_some, Option.map_some, Bool.not_true, Bool.not_false, Bool.false_eq_true, if_true, if_false, decide_true, decide_false, true_and, and_true, Nat.zero_add, Nat.add_zero, Nat.reduceAdd, Nat.reduceSub, reduceIte, Nat.sub_self, Nat.succ_sub_succ_eq_sub, Nat.add_one_sub_one, dnewKD]
  rw [mul_str (by decide), ev_ok, mul_str (by decide), ev_ok, mul_str (by decide), ev_ok]
  have hb := B.lt
  refine (one_mem B.app.app hk (by simp) (by simp)).mono fun a h' q => ?_
  obtain ⟨q, B', g⟩ := q
  have nb : a ≠ .ref b := by
    rintro rfl
    simp at q
    omega
  refine ⟨?_, nb, B', (Gm.refl.app.app (m := some b)).trans g⟩
  have t1 : tyName h' (.ref h.length) = some "list" := by
    unfold tyName
    dsimp only
    rw [g.get ((Gm.refl (m := none)).app.get get_app) (by simp; omega)]
  have t2 : tyName h' (.ref (h ++ [AO.lst [A.str (Str.ofString "0")]]).length) = some "dict" := by
    unfold tyName
    dsimp only
    rw [g.get get_app (by simp; omega)]
  have nt : ∀ a t, tyName h' a = some t → L2.kitB t "str" = some false → badT h' a := fun a t e k => Or.inl ⟨t, e, k⟩
  have lg : ∀ (z : Str) (m : Nat), 3000 < z.length * m → z.length * m ≤ 16777216 → badT h' (.str (repS z (m : Int))) := fun z m a c => Or.inr ⟨_, rfl, by rw [repS_len, Int.toNat_natCast]; exact a, by rw [repS_len, Int.toNat_natCast]; exact c⟩
  simp only [List.mem_cons, List.not_mem_nil, or_false] at q
  rcases q with rfl | rfl | rfl | rfl | rfl | rfl | rfl | rfl | rfl | rfl | rfl
  · exact nt _ "NoneType" rfl rfl
  · exact nt _ "int" rfl rfl
  · exact nt _ "tuple" rfl rfl
  · exact nt _ "tuple" rfl rfl
  · exact nt _ "list" t1 rfl
  · exact nt _ "dict" t2 rfl
  · exact nt _ "bool" rfl rfl
  · exact lg _ 1501 (by decide) (by decide)
  · exact lg _ 3001 (by decide) (by decide)
  · exact lg _ 3001 (by decide) (by decide)
  · exact nt _ "tuple" rfl rfl
/-! numbers -/
/-- a number that is none, and its text -/
def badS (hi : Int) (a : A) : Prop := badN hi a = true ∧ ∃ t : Str, showA a = some t ∧ t.length ≤ 200 ∧ t.cps.all (· < 0x110000) = true
theorem badS_of {hi : Int} {a : A} (e : (badN hi a && match showA a with
  | some t => decide (t.length ≤ 200) && t.cps.all (· < 0x110000)
  | none => false) = true) : badS hi a := by
  rw [Bool.and_eq_true] at e
  obtain ⟨e1, e2⟩ := e
  cases q : showA a with
  | none => rw [q] at e2; cases e2
  | some t =>
    rw [q] at e2
    dsimp only at e2
    rw [Bool.and_eq_true] at e2
    exact ⟨e1, t, q, of_decide_eq_true e2.1, e2.2⟩
theorem pick_places {X : Xn → Hs → Prop} {n k b : Nat} {h : Hs} {r : Sl} (hn : 5000 ≤ n) (B : Bag h b k) (hk : k ≤ 100000) :
    Ev X (((callD 2 f__law_one_of (consD (varD 0) (consD (lstD (consD (conD (.int 0)) (consD (conD (.int 25)) (consD (un1 negA (conD (.int 1))) (consD (conD .non) (consD (conD (.bl true)) (consD (conD (.str "3")) (consD (tupD (consD (conD (.int 3)) nilD)) (consD (bin2 (intA powI) (conD (.int 10)) (conD (.int 60))) nilD))))))))) nilD)))) n (some (.ref b) :: r) h) fun a h' => badS 24 a ∧ Bag h' b (k + 1) ∧ Gm (some b) h h' := by
  simp only [seqD, raiseD, raiseVD, par3D, ex_bind, ev_ex, es_ex, ifD, retD, retND, dropD, setD, nextD, varD, conD, bin2, un1, testD, boolR, notT, andT, orT, ifE, andV, orV, notV, tupD, lstD, cbD, nilD, consD, asgD, parD, nameG, tupG, consG, nilG, setItD, augD, augItD, methD, forD, whileD, lcD, lc2D, sliceD, someD, noneD, chain3, truD, truR, orTD, andTD, notTD, joinedD, glueD, lstRg, rg1, rg2, itRg1, itRg2, itSeq, itEn, dnewKD, newK, newL, maxKD, yesT, wipeA, cmpI, add_I, sub_I, negA, ok_bind, sizeLine_eq, Nat.reduceLeDiff, eq_I, isi_tup, isi_str, isi_int, isi_boo, len_tup, qlt, qle, qgt, qge, rg_if, ev_ok, ev_bind, ev_if, ev_call, es_nx, es_rt, es_seq, es_then, es_if, List.getElem?_cons_succ, List.getElem?_cons_zero, List.set_cons_succ, List.set_cons_zero, List.length_cons, List.length_nil, List.map_cons, List.map_nil, List.replicate, List.cons_append, List.nil_append, Option.bind_some, Option.map_some, Bool.not_true, Bool.not_false, Bool.false_eq_true, if_true, if_false, decide_true, decide_false, true_and, and_true, Nat.zero_add, Nat.add_zero, Nat.reduceAdd, Nat.reduceSub, reduceIte, Nat.sub_self, Nat.succ_sub_succ_eq_sub, Nat.add_one_sub_one]
  rw [pow60, ev_ok]
  refine (one_mem B hk (by simp) (by simp)).mono fun a h' q => ?_
  obtain ⟨q, B', g⟩ := q
  refine ⟨?_, B', g⟩
  simp only [List.mem_cons, List.not_mem_nil, or_false] at q
  rcases q with rfl | rfl | rfl | rfl | rfl | rfl | rfl | rfl <;> exact badS_of (by decide +kernel)
theorem pick_length {X : Xn → Hs → Prop} {n k b : Nat} {h : Hs} {r : Sl} (hn : 5000 ≤ n) (B : Bag h b k) (hk : k ≤ 100000) :
    Ev X (((callD 2 f__law_one_of (consD (varD 0) (consD (lstD (consD (conD (.int 0)) (consD (conD (.int 61)) (consD (un1 negA (conD (.int 1))) (consD (conD .non) (consD (conD (.bl true)) (consD (conD (.str "3")) (consD (tupD (consD (conD (.int 3)) nilD)) (consD (bin2 (intA powI) (conD (.int 10)) (conD (.int 60))) nilD))))))))) nilD)))) n (some (.ref b) :: r) h) fun a h' => badS 60 a ∧ Bag h' b (k + 1) ∧ Gm (some b) h h' := by
  simp only [seqD, raiseD, raiseVD, par3D, ex_bind, ev_ex, es_ex, ifD, retD, retND, dropD, setD, nextD, varD, conD, bin2, un1, testD, boolR, notT, andT, orT, ifE, andV, orV, notV, tupD, lstD, cbD, nilD, consD, asgD, parD, nameG, tupG, consG, nilG, setItD, augD, augItD, methD, forD, whileD, lcD, lc2D, sliceD, someD, noneD, chain3, truD, truR, orTD, andTD, notTD, joinedD, glueD, lstRg, rg1, rg2, itRg1, itRg2, itSeq, itEn, dnewKD, newK, newL, maxKD, yesT, wipeA, cmpI, add_I, sub_I, negA, ok_bind, sizeLine_eq, Nat.reduceLeDiff, eq_I, isi_tup, isi_str, isi_int, isi_boo, len_tup, qlt, qle, qgt, qge, rg_if, ev_ok, ev_bind, ev_if, ev_call, es_nx, es_rt, es_seq, es_then, es_if, List.getElem?_cons_succ, List.getElem?_cons_zero, List.set_cons_succ, List.set_cons_zero, List.length_cons, List.length_nil, List.map_cons, List.map_nil, List.replicate, List.cons_append, List.nil_append, Option.bind_some, Option.map_some, Bool.not_true, Bool.not_false, Bool.false_eq_true, if_true, if_false, decide_true, decide_false, true_and, and_true, Nat.zero_add, Nat.add_zero, Nat.reduceAdd, Nat.reduceSub, reduceIte, Nat.sub_self, Nat.succ_sub_succ_eq_sub, Nat.add_one_sub_one]
  rw [pow60, ev_ok]
  refine (one_mem B hk (by simp) (by simp)).mono fun a h' q => ?_
  obtain ⟨q, B', g⟩ := q
  refine ⟨?_, B', g⟩
  simp only [List.mem_cons, List.not_mem_nil, or_false] at q
  rcases q with rfl | rfl | rfl | rfl | rfl | rfl | rfl | rfl <;> exact badS_of (by decide +kernel)
theorem pick_odd {X : Xn → Hs → Prop} {n k b : Nat} {h : Hs} {r : Sl} (hn : 5000 ≤ n) (B : Bag h b k) (hk : k ≤ 100000) :
    Ev X (((callD 2 f__law_one_of (consD (varD 0) (consD (lstD (consD (conD (.str "")) (consD (conD (.str "x")) (consD (conD (.str "(0 1")) (consD (conD (.str "[0")) (consD (conD (.str "1,")) (consD (conD (.str ")")) nilD))))))) nilD)))) n (some (.ref b) :: r) h) fun a h' => (∃ x : Str, a = .str x ∧ x.length ≤ 3000) ∧ Bag h' b (k + 1) ∧ Gm (some b) h h' := by
  simp only [seqD, raiseD, raiseVD, par3D, ex_bind, ev_ex, es_ex, ifD, retD, retND, dropD, setD, nextD, varD, conD, bin2, un1, testD, boolR, notT, andT, orT, ifE, andV, orV, notV, tupD, lstD, cbD, nilD, consD, asgD, parD, nameG, tupG, consG, nilG, setItD, augD, augItD, methD, forD, whileD, lcD, lc2D, sliceD, someD, noneD, chain3, truD, truR, orTD, andTD, notTD, joinedD, glueD, lstRg, rg1, rg2, itRg1, itRg2, itSeq, itEn, dnewKD, newK, newL, maxKD, yesT, wipeA, cmpI, add_I, sub_I, negA, ok_bind, sizeLine_eq, Nat.reduceLeDiff, eq_I, isi_tup, isi_str, isi_int, isi_boo, len_tup, qlt, qle, qgt, qge, rg_if, ev_ok, ev_bind, ev_if, ev_call, es_nx, es_rt, es_seq, es_then, es_if, List.getElem?_cons_succ, List.getElem?_cons_zero, List.set_cons_succ, List.set_cons_zero, List.length_cons, List.length_nil, List.map_cons, List.map_nil, List.replicate, List.cons_append, List.nil_append, Option.bind_some, Option.map_some, Bool.not_true, Bool.not_false, Bool.false_eq_true, if_true, if_false, decide_true, decide_false, true_and, and_true, Nat.zero_add, Nat.add_zero, Nat.reduceAdd, Nat.reduceSub, reduceIte, Nat.sub_self, Nat.succ_sub_succ_eq_sub, Nat.add_one_sub_one]
  refine (one_mem B hk (by simp) (by simp)).mono fun a h' q => ?_
  obtain ⟨q, B', g⟩ := q
  refine ⟨?_, B', g⟩
  simp only [List.mem_cons, List.not_mem_nil, or_false] at q
  rcases q with rfl | rfl | rfl | rfl | rfl | rfl <;> exact ⟨_, rfl, by decide⟩
end Dn

set_option maxHeartbeats 4000000
namespace Dn
open PySem
theorem badT_keep {h h' : Hs} {m : Option Nat} {a : A} (b : badT h a) (g : Gm m h h') (hm : ∀ i, m = some i → a ≠ .ref i) : badT h' a := by
  rcases b with ⟨t, e, k⟩ | z
  · exact Or.inl ⟨t, ty_keep e g hm, k⟩
  · exact Or.inr z
theorem call_2 {X : Xn → Hs → Prop} {G : DF} {f1 f2 : DE} {n : Nat} {s : Sl} {h : Hs} {a c : A} {Q : A → Hs → Prop} (e1 : f1 n s h = .ok a h) (e2 : f2 n s h = .ok c h) (w : Ev X (G n [a, c] h) Q) : Ev X (callD 2 G (consD f1 (consD f2 nilD)) n s h) Q := by
  rw [ev_call]
  unfold consD nilD
  rw [e1, ok_bind, ev_bind, e2, ok_bind, ok_bind, ev_ok, ev_ok]
  exact ⟨rfl, w⟩
theorem nlen : ("number " : Str).length = 7 := rfl
theorem add_str {x y : Str} {h : Hs} (e : x.length + y.length ≤ sizeLine) : addA (.str x) (.str y) h = .ok (.str (x ++ y)) h := by
  unfold addA
  dsimp only
  rw [if_pos e]
theorem add_ref {p q : Nat} {xs ys : List A} {h : Hs} (e1 : h[p]? = some (.lst xs)) (e2 : h[q]? = some (.lst ys)) (e : xs.length + ys.length ≤ sizeLine) : addA (.ref p) (.ref q) h = newL (xs ++ ys) h := by
  unfold addA lstOf
  dsimp only
  rw [e1, e2]
  dsimp only
  rw [if_pos e]
theorem num_lay {t : Str} (e : t.cps.all (· < 0x110000) = true) : (("number " : Str) ++ t).cps.all (· < 0x110000) = true := by
  show (("number " : Str).cps ++ t.cps).all (· < 0x110000) = true
  rw [Array.all_append, e, Bool.and_true]
  decide +kernel
theorem words_lay {x y : Str} (ex : x.cps.all (· < 0x110000) = true) (ey : y.cps.all (· < 0x110000) = true) : SeqAt.shaped (.list [.str "parse 0", .str x, .str x, .str "parse 0", .str y, .str y, .str "parse 0", .str "parse 0"]) = true := by
  have e0 : PyData.strOk ("parse 0" : Str) = true := by
    show ("parse 0" : Str).cps.all (· < 0x110000) = true
    decide +kernel
  replace ex : PyData.strOk x = true := ex
  replace ey : PyData.strOk y = true := ey
  refine shaped_list (k := 0) ⟨?_, by simp [PyData.depthAll, PyData.depth]⟩ (by decide)
  simp only [PyData.canLayAll0, PyData.canLay0, e0, ex, ey, Bool.and_self]
theorem read_right_ok {n b k : Nat} {h : Hs} {P : Addr} (hn : 5000 ≤ n) (B : Bag h b k) (hk : k ≤ 50000) (ht : h[1]? = some (.tab P ((("_law_read_right" : Str) ++ (".<locals>." : Str)) ++ ("<lambda>" : Str)))) :
    Ev NoX (f__law_read_right P n [.ref b] h) fun a h' => a = .bl true ∧ Bag h' b (k + 4) ∧ Gm (some b) h h' := by
  have hb0 := B.ne_tab ht
  refine ev_body rfl ?_
  unfold d__law_read_right
  refine step_seq (fun s h' => ∃ non : A, s = [some (.ref b), some non, none, none, none, none, none] ∧ badT h' non ∧ non ≠ .ref b ∧ Bag h' b (k + 1) ∧ Gm (some b) h h') ?_ ?_
  · unfold setD
    rw [es_then]
    refine (pick_none hn B (by omega)).mono fun a h1 z => ?_
    rw [es_nx]
    exact ⟨a, rfl, z⟩
  rintro s h1 ⟨non, rfl, bn, nn, B1, g1⟩
  refine step_seq (fun s h' => ∃ pl : A, s = [some (.ref b), some non, some pl, none, none, none, none] ∧ badS 24 pl ∧ badT h' non ∧ Bag h' b (k + 2) ∧ Gm (some b) h h') ?_ ?_
  · unfold setD
    rw [es_then]
    refine (pick_places hn B1 (by omega)).mono fun a h2 z => ?_
    obtain ⟨bp, B2, g2⟩ := z
    rw [es_nx]
    exact ⟨a, rfl, bp, badT_keep bn g2 (fun i e q => by cases e; exact nn q), B2, g1.trans g2⟩
  rintro s h2 ⟨pl, rfl, ⟨bp, tp, ep, htp, lp⟩, bn, B2, g2⟩
  refine step_seq (fun s h' => ∃ ln : A, s = [some (.ref b), some non, some pl, some ln, none, none, none] ∧ badS 60 ln ∧ badT h' non ∧ Bag h' b (k + 3) ∧ Gm (some b) h h') ?_ ?_
  · unfold setD
    rw [es_then]
    refine (pick_length hn B2 (by omega)).mono fun a h3 z => ?_
    obtain ⟨bl, B3, g3⟩ := z
    rw [es_nx]
    exact ⟨a, rfl, bl, badT_keep bn g3 (fun i e q => by cases e; exact nn q), B3, g2.trans g3⟩
  rintro s h3 ⟨ln, rfl, ⟨bl, tl, el, htl, ll⟩, bn, B3, g3⟩
  refine step_seq (fun s h' => ∃ od : Str, s = [some (.ref b), some non, some pl, some ln, some (.str od), none, none] ∧ od.length ≤ 3000 ∧ badT h' non ∧ Bag h' b (k + 4) ∧ Gm (some b) h h') ?_ ?_
  · unfold setD
    rw [es_then]
    refine (pick_odd hn B3 (by omega)).mono fun a h4 z => ?_
    obtain ⟨⟨od, rfl, hod⟩, B4, g4⟩ := z
    rw [es_nx]
    exact ⟨od, rfl, hod, badT_keep bn g4 (fun i e q => by cases e; exact nn q), B4, g3.trans g4⟩
  rintro s h4 ⟨od, rfl, hod, bn, B4, g4⟩
  have ht4 := g4.get ht (by simp [hb0])
  have none_no : ∀ i, (none : Option Nat) = some i → ∀ {a : A}, a ≠ .ref i := fun i e => by cases e
  have tab : ∀ h', Gm none h4 h' → h'[1]? = some (.tab P ((("_law_read_right" : Str) ++ (".<locals>." : Str)) ++ ("<lambda>" : Str))) := fun h' g => g.get ht4
  refine step_seq (fun s h' => ∃ p : Nat, s = [some (.ref b), some non, some pl, some ln, some (.str od), some (.ref p), none] ∧ h4.length ≤ p ∧ h'[p]? = some (.lst [.str "parse 0"]) ∧ Gm none h4 h') ?_ ?_
  · unfold setD
    rw [es_then]
    refine ev_lst ?_
    rw [ev_cons1]
    refine (word_X tells_parse ht4 (call_2 rfl rfl (Ev.ofEx (read_move_badT (badT_keep bn Gm.refl (fun i e => none_no i e)))))).mono fun a h5 z => ?_
    obtain ⟨rfl, g5⟩ := z
    refine ⟨by decide, ?_⟩
    rw [es_nx]
    exact ⟨h5.length, rfl, g5.1, get_app, g5.app⟩
  rintro s h5 ⟨p, rfl, hp, e5, g5⟩
  refine step_seq (fun s h' => s = [some (.ref b), some non, some pl, some ln, some (.str od), some (.ref p), none] ∧ h'[p]? = some (.lst [.str "parse 0", .str (("number " : Str) ++ tp)]) ∧ Gm none h4 h') ?_ ?_
  · exact tell_more (v := 5) rfl e5 (by simp) hp g5 (word_X (tells_num ep (by rw [nlen]; have : sizeLine = 16777216 := sizeLine_eq; omega)) (tab _ g5) (call_2 rfl rfl (Ev.ofEx (read_move_badN hod bp)))) fun h' a c => ⟨rfl, a, c⟩
  rintro s h6 ⟨rfl, e6, g6⟩
  refine step_seq (fun s h' => s = [some (.ref b), some non, some pl, some ln, some (.str od), some (.ref p), none] ∧ h'[p]? = some (.lst [.str "parse 0", .str (("number " : Str) ++ tp), .str (("number " : Str) ++ tp)]) ∧ Gm none h4 h') ?_ ?_
  · exact tell_more (v := 5) rfl e6 (by simp) hp g6 (word_X (tells_num ep (by rw [nlen]; have : sizeLine = 16777216 := sizeLine_eq; omega)) (tab _ g6) (call_2 rfl rfl (Ev.ofEx (read_move_badN (by decide) bp)))) fun h' a c => ⟨rfl, a, c⟩
  rintro s h7 ⟨rfl, e7, g7⟩
  refine step_seq (fun s h' => s = [some (.ref b), some non, some pl, some ln, some (.str od), some (.ref p), none] ∧ h'[p]? = some (.lst [.str "parse 0", .str (("number " : Str) ++ tp), .str (("number " : Str) ++ tp), .str "parse 0"]) ∧ Gm none h4 h') ?_ ?_
  · exact tell_more (v := 5) rfl e7 (by simp) hp g7 (word_X tells_parse (tab _ g7) (call_2 rfl rfl (Ev.ofEx (read_kinds_badT (badT_keep bn g7 (fun i e => none_no i e)))))) fun h' a c => ⟨rfl, a, c⟩
  rintro s h8 ⟨rfl, e8, g8⟩
  refine step_seq (fun s h' => s = [some (.ref b), some non, some pl, some ln, some (.str od), some (.ref p), none] ∧ h'[p]? = some (.lst [.str "parse 0", .str (("number " : Str) ++ tp), .str (("number " : Str) ++ tp), .str "parse 0", .str (("number " : Str) ++ tl)]) ∧ Gm none h4 h') ?_ ?_
  · exact tell_more (v := 5) rfl e8 (by simp) hp g8 (word_X (tells_num el (by rw [nlen]; have : sizeLine = 16777216 := sizeLine_eq; omega)) (tab _ g8) (call_2 rfl rfl (Ev.ofEx (read_kinds_badN hod bl)))) fun h' a c => ⟨rfl, a, c⟩
  rintro s h9 ⟨rfl, e9, g9⟩
  refine step_seq (fun s h' => s = [some (.ref b), some non, some pl, some ln, some (.str od), some (.ref p), none] ∧ h'[p]? = some (.lst [.str "parse 0", .str (("number " : Str) ++ tp), .str (("number " : Str) ++ tp), .str "parse 0", .str (("number " : Str) ++ tl), .str (("number " : Str) ++ tl)]) ∧ Gm none h4 h') ?_ ?_
  · exact tell_more (v := 5) rfl e9 (by simp) hp g9 (word_X (tells_num el (by rw [nlen]; have : sizeLine = 16777216 := sizeLine_eq; omega)) (tab _ g9) (call_2 rfl rfl (Ev.ofEx (read_kinds_badN (by decide) bl)))) fun h' a c => ⟨rfl, a, c⟩
  rintro s h10 ⟨rfl, e10, g10⟩
  refine step_seq (fun s h' => s = [some (.ref b), some non, some pl, some ln, some (.str od), some (.ref p), none] ∧ h'[p]? = some (.lst [.str "parse 0", .str (("number " : Str) ++ tp), .str (("number " : Str) ++ tp), .str "parse 0", .str (("number " : Str) ++ tl), .str (("number " : Str) ++ tl), .str "parse 0"]) ∧ Gm none h4 h') ?_ ?_
  · exact tell_more (v := 5) rfl e10 (by simp) hp g10 (word_X tells_parse (tab _ g10) (call_1 rfl (Ev.ofEx (read_row_badT (badT_keep bn g10 (fun i e => none_no i e)))))) fun h' a c => ⟨rfl, a, c⟩
  rintro s h11 ⟨rfl, e11, g11⟩
  refine step_seq (fun s h' => s = [some (.ref b), some non, some pl, some ln, some (.str od), some (.ref p), none] ∧ h'[p]? = some (.lst [.str "parse 0", .str (("number " : Str) ++ tp), .str (("number " : Str) ++ tp), .str "parse 0", .str (("number " : Str) ++ tl), .str (("number " : Str) ++ tl), .str "parse 0", .str "parse 0"]) ∧ Gm none h4 h') ?_ ?_
  · exact tell_more (v := 5) rfl e11 (by simp) hp g11 (word_X tells_parse (tab _ g11) (call_1 rfl (Ev.ofEx (read_group_badT (badT_keep bn g11 (fun i e => none_no i e)))))) fun h' a c => ⟨rfl, a, c⟩
  rintro s h12 ⟨rfl, e12, g12⟩
  have sz : sizeLine = 16777216 := sizeLine_eq
  have rp : ∀ h, bRepr [pl] h = .ok (.str tp) h := fun h => by unfold bRepr; dsimp only; rw [ep]
  have rl : ∀ h, bRepr [ln] h = .ok (.str tl) h := fun h => by unfold bRepr; dsimp only; rw [el]
  have ap : ∀ h, addA (.str "number ") (.str tp) h = .ok (.str (("number " : Str) ++ tp)) h := fun h => add_str (by rw [nlen]; omega)
  have al : ∀ h, addA (.str "number ") (.str tl) h = .ok (.str (("number " : Str) ++ tl)) h := fun h => add_str (by rw [nlen]; omega)
  refine step_seq (fun s h' => ∃ q : Nat, s = [some (.ref b), some non, some pl, some ln, some (.str od), some (.ref p), some (.ref q)] ∧ h'[q]? = some (.lst [.str "parse 0", .str (("number " : Str) ++ tp), .str (("number " : Str) ++ tp), .str "parse 0"]) ∧ Gm none h12 h') ?_ ?_
  · simp only [seqD, raiseD, raiseVD, par3D, ex_bind, ev_ex, es_ex, ifD, retD, retND, dropD, setD, nextD, varD, conD, bin2, un1, testD, boolR, notT, andT, orT, ifE, andV, orV, notV, tupD, lstD, cbD, nilD, consD, asgD, parD, nameG, tupG, consG, nilG, setItD, augD, augItD, methD, forD, whileD, lcD, lc2D, sliceD, someD, noneD, chain3, truD, truR, orTD, andTD, notTD, joinedD, glueD, lstRg, rg1, rg2, itRg1, itRg2, itSeq, itEn, dnewKD, newK, newL, maxKD, yesT, wipeA, cmpI, add_I, sub_I, negA, ok_bind, sizeLine_eq, Nat.reduceLeDiff, eq_I, isi_tup, isi_str, isi_int, isi_boo, len_tup, qlt, qle, qgt, qge, rg_if, ev_ok, ev_bind, ev_if, ev_call, es_nx, es_rt, es_seq, es_then, es_if, List.getElem?_cons_succ, List.getElem?_cons_zero, List.set_cons_succ, List.set_cons_zero, List.length_cons, List.length_nil, List.map_cons, List.map_nil, List.replicate, List.cons_append, List.nil_append, Option.bind_some, Option.map_some, Bool.not_true, Bool.not_false, Bool.false_eq_true, if_true, if_false, decide_true, decide_false, true_and, and_true, Nat.zero_add, Nat.add_zero, Nat.reduceAdd, Nat.reduceSub, reduceIte, Nat.sub_self, Nat.succ_sub_succ_eq_sub, Nat.add_one_sub_one, rp, ap]
    exact ⟨_, rfl, get_app, Gm.refl.app⟩
  rintro s h13 ⟨q, rfl, e13, g13⟩
  refine es_ret ?_
  simp only [seqD, raiseD, raiseVD, par3D, ex_bind, ev_ex, es_ex, ifD, retD, retND, dropD, setD, nextD, varD, conD, bin2, un1, testD, boolR, notT, andT, orT, ifE, andV, orV, notV, tupD, lstD, cbD, nilD, consD, asgD, parD, nameG, tupG, consG, nilG, setItD, augD, augItD, methD, forD, whileD, lcD, lc2D, sliceD, someD, noneD, chain3, truD, truR, orTD, andTD, notTD, joinedD, glueD, lstRg, rg1, rg2, itRg1, itRg2, itSeq, itEn, dnewKD, newK, newL, maxKD, yesT, wipeA, cmpI, add_I, sub_I, negA, ok_bind, sizeLine_eq, Nat.reduceLeDiff, eq_I, isi_tup, isi_str, isi_int, isi_boo, len_tup, qlt, qle, qgt, qge, rg_if, ev_ok, ev_bind, ev_if, ev_call, es_nx, es_rt, es_seq, es_then, es_if, List.getElem?_cons_succ, List.getElem?_cons_zero, List.set_cons_succ, List.set_cons_zero, List.length_cons, List.length_nil, List.map_cons, List.map_nil, List.replicate, List.cons_append, List.nil_append, Option.bind_some, Option.map_some, Bool.not_true, Bool.not_false, Bool.false_eq_true, if_true, if_false, decide_true, decide_false, true_and, and_true, Nat.zero_add, Nat.add_zero, Nat.reduceAdd, Nat.reduceSub, reduceIte, Nat.sub_self, Nat.succ_sub_succ_eq_sub, Nat.add_one_sub_one, rl, al]
  rw [add_ref ((Gm.refl (m := none)).app.get e13) get_app (by rw [sz]; simp), newL, ev_ok]
  simp only [List.cons_append, List.nil_append]
  rw [eq_same (L := [.str "parse 0", .str (("number " : Str) ++ tp), .str (("number " : Str) ++ tp), .str "parse 0", .str (("number " : Str) ++ tl), .str (("number " : Str) ++ tl), .str "parse 0", .str "parse 0"]) (ds := [.str "parse 0", .str (("number " : Str) ++ tp), .str (("number " : Str) ++ tp), .str "parse 0", .str (("number " : Str) ++ tl), .str (("number " : Str) ++ tl), .str "parse 0", .str "parse 0"]) ((g13.trans (Gm.refl.app.app)).get e12) get_app (fun f => rfl) (words_lay (num_lay lp) (num_lay ll)), ev_ok]
  exact ⟨rfl, B4.keepN (g12.trans (g13.trans Gm.refl.app.app)), g4.trans (g12.trans (g13.trans Gm.refl.app.app)).weak⟩
end Dn

set_option maxHeartbeats 4000000
namespace Dn
open PySem
abbrev nmW : Str := ((("_law_written_right" : Str) ++ (".<locals>." : Str)) ++ ("<lambda>" : Str))
abbrev nmR : Str := ((("_law_read_right" : Str) ++ (".<locals>." : Str)) ++ ("<lambda>" : Str))
abbrev nmL : Str := ((("law" : Str) ++ (".<locals>." : Str)) ++ ("<lambda>" : Str))
structure Tb3 (h : Hs) (T1 T2 T3 : Addr) : Prop where
  t0 : h[0]? = some (.tab T1 nmW)
  t1 : h[1]? = some (.tab T2 nmR)
  t2 : h[2]? = some (.tab T3 nmL)
theorem Tb3.keep {h h' : Hs} {T1 T2 T3 : Addr} {m : Option Nat} (tb : Tb3 h T1 T2 T3) (g : Gm m h h') (hm : ∀ i, m = some i → 3 ≤ i) : Tb3 h' T1 T2 T3 := by
  have go : ∀ j, j < 3 → some j ≠ m := fun j hj z => by
    have := hm j z.symm
    omega
  exact ⟨g.get tb.t0 (go 0 (by omega)), g.get tb.t1 (go 1 (by omega)), g.get tb.t2 (go 2 (by omega))⟩
theorem Tb3.long {h : Hs} {T1 T2 T3 : Addr} (tb : Tb3 h T1 T2 T3) : 3 ≤ h.length := lt_of_get tb.t2
/-- one spot -/
theorem spot_ok {n b : Nat} {h : Hs} {s : Sl} {T1 T2 T3 : Addr} {T : Tl} (hn : 5000 ≤ n) (tb : Tb3 h T1 T2 T3) (hb : s[2]? = some (some (.ref b))) (B : Bag h b 0) (b3 : 3 ≤ b) (q : ∀ h', Tb3 h' T1 T2 T3 → Gm (some b) h h' → T.nx s h') :
    EvS (ifD (orT (notT (testD (callD 1 (f__law_written_right T1) (consD (varD 2) nilD)))) (notT (testD (callD 1 (f__law_read_right T2) (consD (varD 2) nilD))))) (retD (conD (.bl false))) nextD n s h) T := by
  have kp : ∀ i, some b = some i → 3 ≤ i := fun i z => by cases z; exact b3
  unfold ifD orT notT testD
  unfold boolR
  rw [es_then, ev_bind, ev_bind, ev_bind]
  refine call_1 hb ((Ev.any (written_right_ok hn B (by omega) tb.t0)).mono fun a h1 z => ?_)
  obtain ⟨rfl, B1, g1⟩ := z
  have tb1 := tb.keep g1 kp
  dsimp only
  rw [ev_ok, ev_ok]
  simp only [Bool.not_true, Bool.false_eq_true, if_false]
  rw [ev_bind, ev_bind]
  refine call_1 hb ((Ev.any (read_right_ok hn B1 (by omega) tb1.t1)).mono fun a h2 z => ?_)
  obtain ⟨rfl, B2, g2⟩ := z
  dsimp only
  rw [ev_ok, ev_ok]
  simp only [Bool.not_true, Bool.false_eq_true, if_false, nextD, es_nx]
  exact q h2 (tb1.keep g2 kp) (g1.trans g2)
end Dn

set_option maxHeartbeats 4000000
namespace Dn
open PySem
open TL (numL joinL)
theorem repS_S (zs : List Nat) (k : Nat) : repS (S zs) (k : Int) = S (List.replicate k zs).flatten := by
  unfold repS S SX.S
  rw [Int.toNat_natCast]
theorem d_get {cs l : List Nat} {j : Nat} (e : cs.drop j = l) (i : Nat) : cs[j + i]? = l[i]? := by
  rw [← e, List.getElem?_drop]
theorem d_drop {cs l : List Nat} {j : Nat} (e : cs.drop j = l) (i : Nat) : cs.drop (j + i) = l.drop i := by
  rw [← e, List.drop_drop]
def t0 : List Nat := [32, 43, 32, 91, 48, 93]
def tails (m : Nat) : List Nat := (List.replicate m t0).flatten
theorem tails_succ (m : Nat) : tails (m + 1) = t0 ++ tails m := by
  unfold tails
  rw [List.replicate_succ, List.flatten_cons]
theorem term_0 {cs r : List Nat} {j : Nat} (e : cs.drop j = 91 :: 48 :: 93 :: r) : term cs j = .ok ((1, 0), j + 3) := by
  have g0 : cs[j]? = some 91 := by have := d_get e 0; simpa using this
  have g2 : cs[j + 2]? = some 93 := by have := d_get e 2; simpa using this
  have e1 : cs.drop (j + 1) = 48 :: 93 :: r := by have := d_drop e 1; simpa using this
  have z : sz cs (j + 1) = 1 := by unfold sz; rw [e1]; rfl
  have v : vl cs (j + 1) = 0 := by unfold vl; rw [z, e1]; rfl
  unfold term
  rw [if_pos g0]
  unfold termP
  rw [if_pos g0, z, if_neg (by decide), if_pos (by rw [show j + 1 + 1 = j + 2 from rfl]; exact g2), v]
theorem terms_0 {cs : List Nat} : ∀ (m k j : Nat) (acc : List (Int × Nat)), cs.drop j = tails m → m < k → termsC cs k acc j = .ok (acc ++ List.replicate m (1, 0))
  | 0, k + 1, j, acc, e, hk => by
    have hj : ¬ j < cs.length := fun z => by
      have := congrArg List.length e
      rw [List.length_drop, show (tails 0).length = 0 from rfl] at this
      omega
    unfold termsC
    rw [if_neg hj, List.replicate_zero, List.append_nil]
  | m + 1, k + 1, j, acc, e, hk => by
    rw [tails_succ] at e
    have e' : cs.drop j = 32 :: 43 :: 32 :: 91 :: 48 :: 93 :: tails m := e
    have g0 : cs[j]? = some 32 := by have := d_get e' 0; simpa using this
    have g1 : cs[j + 1]? = some 43 := by have := d_get e' 1; simpa using this
    have g2 : cs[j + 2]? = some 32 := by have := d_get e' 2; simpa using this
    have hj : j < cs.length := (List.getElem?_eq_some_iff.mp g0).1
    have e3 : cs.drop (j + 3) = 91 :: 48 :: 93 :: tails m := by have := d_drop e' 3; simpa using this
    have e6 : cs.drop (j + 3 + 3) = tails m := by have := d_drop e3 3; simpa using this
    unfold termsC
    rw [if_pos hj, if_pos g0, if_pos (.inl g1), if_pos g2, term_0 e3]
    dsimp only
    rw [terms_0 m k (j + 3 + 3) _ e6 (by omega)]
    have : sgI cs (j + 1) = 1 := by unfold sgI; rw [if_pos g1]
    rw [this, List.replicate_succ, List.append_assoc]
    rfl
theorem read_500 {cs : List Nat} (e : cs = 91 :: 48 :: 93 :: tails 499) : termsT cs = .ok (List.replicate 500 (1, 0)) := by
  have hl : cs.length = 2997 := by rw [e]; decide +kernel
  have e0 : cs.drop 0 = 91 :: 48 :: 93 :: tails 499 := e
  have e3 : cs.drop (0 + 3) = tails 499 := by have := d_drop e0 3; simpa using this
  unfold termsT
  rw [if_neg (by intro z; rw [z] at hl; exact absurd hl (by decide))]
  unfold termsR
  rw [if_neg (by rw [e]; simp), if_neg (by rw [e]; simp)]
  unfold termsB
  rw [term_0 e0]
  dsimp only
  rw [terms_0 499 (cs.length + 1) (0 + 3) _ e3 (by omega)]
  rfl
end Dn

set_option maxHeartbeats 4000000
namespace Dn
open PySem
open TL (numL joinL)
/-! ### texts at 3000 characters -/
theorem Ev.toNo {α : Type} {X : Xn → Hs → Prop} {r : R α} {Q Q' : α → Hs → Prop} (w : Ev X r Q) (no : ∀ x h, ¬ X x h) (m : ∀ a h, Q a h → Q' a h) : Ev NoX r Q' := by
  cases r with
  | ok a h1 => exact m _ _ w
  | ex x h1 => exact (no _ _ w).elim
  | no => exact w
def isTold : Out → Bool
  | .told _ => true
  | _ => false
theorem no_X {O : Out} (e : isTold O = true) (x : Xn) : ¬ O.X x := by
  cases O with
  | told xs => exact id
  | parse e' => cases e
  | bad b => cases e
def ones : List Nat := List.replicate 49 49
def full : List Nat := joinL [44] (List.replicate 60 ones)
def terms500 : List Nat := 91 :: 48 :: 93 :: tails 499
theorem full_len : full.length = 2999 := by decide +kernel
theorem full_sm : sm full = true := by decide +kernel
theorem full1_sm : sm (full ++ [49]) = true := by decide +kernel
theorem terms_len : terms500.length = 2997 := by decide +kernel
theorem terms_sm : sm terms500 = true := by decide +kernel
theorem told1 : isTold (rowR full) = true := by decide +kernel
theorem told2 : isTold (rowR (full ++ [49])) = true := by decide +kernel
theorem sum_ones : ∀ (m : Nat) (z : Int), (List.replicate m ((1 : Int), (0 : Nat))).foldl addK [z] = [z + m]
  | 0, z => by rw [List.replicate_zero, List.foldl_nil]; simp
  | m + 1, z => by
    rw [List.replicate_succ, List.foldl_cons]
    show (List.replicate m ((1 : Int), (0 : Nat))).foldl addK [z + 1] = _
    rw [sum_ones m (z + 1)]
    congr 1
    omega
theorem good_500 : [(500 : Int)].all goodB = true := by decide +kernel
theorem any_500 : ¬ (List.replicate 500 ((1 : Int), (0 : Nat))).any (fun q => decide (1 ≤ q.2)) = true := by
  rw [List.any_replicate]
  simp
theorem sum_500 : sumK 1 (List.replicate 500 (1, 0)) = [500] := by
  unfold sumK
  have := sum_ones 500 0
  simpa using this
theorem told_of {cs : List Nat} {ts : List (Int × Nat)} {len : Nat} (e : termsT cs = .ok ts) (h1 : ¬ ts.any (fun q => decide (len ≤ q.2)) = true) (h2 : (sumK len ts).all goodB = true) : isTold (kindsR cs len) = true := by
  unfold kindsR
  rw [e]
  dsimp only
  rw [if_neg h1, if_pos h2]
  rfl
theorem told3 : isTold (kindsR terms500 1) = true := told_of (read_500 rfl) any_500 (by rw [sum_500]; exact good_500)
theorem rep_ones : repS "1" 49 = S ones := by decide +kernel
theorem t_1 : Str.ofString "[0]" = S [91, 48, 93] := by decide +kernel
theorem t_2 : Str.ofString " + [0]" = S t0 := by decide +kernel
theorem terms_S : ("[0]" : Str) ++ repS " + [0]" 499 = S terms500 := by
  show Str.ofString "[0]" ++ repS (Str.ofString " + [0]") ((499 : Nat) : Int) = _
  rw [t_1, t_2, repS_S, S_cat]
  exact congrArg S (show [91, 48, 93] ++ tails 499 = terms500 from rfl)
theorem s_1 : Str.ofString "1" = S [49] := by decide +kernel
theorem s_1c : Str.ofString "1," = S [49, 44] := by decide +kernel
theorem mul_ref {p k : Nat} {xs : List A} {h : Hs} (e : h[p]? = some (.lst xs)) (hk : k ≤ 1000) (hx : xs.length * k ≤ 1000000) : mulA (.ref p) (.int (k : Int)) h = newL (List.replicate k xs).flatten h := by
  unfold mulA lstOf
  dsimp only
  rw [e]
  dsimp only
  rw [if_pos ⟨by omega, by omega, by rw [Int.toNat_natCast, sizeLine_eq]; omega⟩, Int.toNat_natCast]
theorem mul_tup0 {h : Hs} : mulA (.tup [.int 0]) (.int 61) h = .ok (.tup (List.replicate 61 (.int 0))) h := rfl
theorem badR_0 {h : Hs} : badR h (.tup []) := Or.inr ⟨[], rfl, by decide, rfl, by decide⟩
theorem badR_61 {h : Hs} : badR h (.tup (List.replicate 61 (.int 0))) := Or.inr ⟨_, rfl, by decide, by decide +kernel, by decide +kernel⟩
theorem badT_long {h : Hs} : badT h (.str (S (full ++ [49, 44]))) := Or.inr ⟨_, rfl, by rw [S_len, List.length_append, full_len]; decide, by rw [S_len, List.length_append, full_len]; decide⟩
def dueK : List A := [.str "fine", .int 2999, .str "fine", .str "parse 0", .str "fine", .str "row", .str "kinds"]
def dueKD : List PyData := [.str "fine", .int 2999, .str "fine", .str "parse 0", .str "fine", .str "row", .str "kinds"]
theorem dueK_D (f : Nat → Option PyData) : toDws f dueK = some dueKD := rfl
theorem dueK_shaped : SeqAt.shaped (.list dueKD) = true := by decide +kernel
section
variable {n : Nat} {s : Sl} {h : Hs} {T3 : Addr} {X : Xn → Hs → Prop}
theorem read_fine {cs : List Nat} (hn : 5000 ≤ n) (hl : cs.length ≤ 3000) (hs : sm cs = true) (e : isTold (rowR cs) = true) : Ev NoX (f_read_row n [.str (S cs)] h) fun _ h' => Gm none h h' :=
  (read_row_E (X := ()) hn hl hs).toNo (fun x h' z => no_X e x z.1) fun _ _ z => z.2
theorem kinds_fine {cs : List Nat} {p : Nat} (hn : 5000 ≤ n) (hp : 1 ≤ p ∧ p ≤ 60) (hl : cs.length ≤ 3000) (hs : sm cs = true) (e : isTold (kindsR cs p) = true) : Ev NoX (f_read_kinds n [.str (S cs), .int (p : Int)] h) fun _ h' => Gm none h h' :=
  (read_kinds_E hn hp hl hs).toNo (fun x h' z => no_X e x z.1) fun _ _ z => z.2
/-- one argument, told -/
theorem call_e {G : DF} {f1 : DE} {a : A} {Q : A → Hs → Prop} (e1 : f1 n s h = .ok a h) (w : Ev X (G n [a] h) Q) : Ev X (callD 1 G (consD f1 nilD) n s h) Q := by
  rw [ev_call, ev_cons1, e1, ev_ok]
  exact ⟨rfl, w⟩
end
end Dn

set_option maxHeartbeats 4000000
namespace Dn
open PySem
open TL (numL joinL)
theorem full_eq : joinL [44] (List.replicate 60 ones) = full := rfl
theorem ones_sum : ((List.replicate 60 ones).map (·.length)).sum + (List.replicate 60 ones).length * [44].length ≤ 16777216 := by decide +kernel
theorem ones_map : (List.replicate 60 [A.str (S ones)]).flatten = (List.replicate 60 ones).map fun y => A.str (S y) := by
  rw [List.map_replicate, List.flatten_replicate_singleton]
theorem join_full {h : Hs} : mJoin (.str (S [44])) [.ref h.length] (h ++ [.lst (List.replicate 60 [A.str (S ones)]).flatten]) = .ok (.str (S full)) (h ++ [.lst (List.replicate 60 [A.str (S ones)]).flatten]) := by
  rw [join_ref (ys := List.replicate 60 ones) (by rw [get_app, ones_map]) ones_sum, full_eq]
theorem ev_cons {X : Xn → Hs → Prop} {f : DE} {g : DA} {n : Nat} {s : Sl} {h : Hs} {Q : List A → Hs → Prop} : Ev X (consD f g n s h) Q = Ev X (f n s h) fun a h1 => Ev X (g n s h1) fun as h2 => Q (a :: as) h2 := by
  unfold consD
  rw [ev_bind]
  congr 1
  funext a h1
  rw [ev_bind]
  rfl
theorem l0 : ("[0]" : Str).length = 3 := rfl
theorem l1 : (" + [0]" : Str).length = 6 := rfl
/-- the long texts -/
structure Long (fu tm : List Nat) : Prop where
  len : fu.length = 2999
  sm1 : sm fu = true
  sm2 : sm (fu ++ [49]) = true
  t1 : isTold (rowR fu) = true
  t2 : isTold (rowR (fu ++ [49])) = true
  tl : tm.length ≤ 3000
  ts : sm tm = true
  t3 : isTold (kindsR tm 1) = true
  tS : ("[0]" : Str) ++ repS " + [0]" 499 = S tm
  jn : ∀ h : Hs, mJoin (.str (S [44])) [.ref h.length] (h ++ [.lst (List.replicate 60 [A.str (repS "1" 49)]).flatten]) = .ok (.str (S fu)) (h ++ [.lst (List.replicate 60 [A.str (repS "1" 49)]).flatten])
  bT : ∀ h, badT h (.str (S (fu ++ [49, 44])))
theorem long_ok : Long full terms500 := ⟨full_len, full_sm, full1_sm, told1, told2, by rw [terms_len]; decide, terms_sm, told3, terms_S, fun h => by rw [rep_ones]; exact join_full, fun h => badT_long⟩
theorem sum_terms {tm : List Nat} {n : Nat} {s : Sl} {h : Hs} (e : ("[0]" : Str) ++ repS " + [0]" 499 = S tm) : bin2 addA (conD (.str "[0]")) (bin2 mulA (conD (.str " + [0]")) (conD (.int 499))) n s h = .ok (.str (S tm)) h := by
  unfold bin2 conD
  rw [ok_bind, ok_bind, ok_bind, mul_str (by decide), ok_bind]
  have hl : ("[0]" : Str).length + (repS " + [0]" 499).length ≤ sizeLine := by
    rw [repS_len, l0, l1, sizeLine_eq]
    decide
  rw [add_str hl, e]
theorem kinds_call {fu tm : List Nat} {n : Nat} {s : Sl} {h : Hs} {f1 : DE} (hn : 5000 ≤ n) (L : Long fu tm) (e1 : ∀ s h, f1 n s h = .ok (.str (S tm)) h) : Ev NoX (callD 2 f_read_kinds (consD f1 (consD (conD (.int 1)) nilD)) n s h) fun _ h' => Gm none h h' := by
  have w := kinds_fine (h := h) hn (p := 1) ⟨by decide, by decide⟩ L.tl L.ts L.t3
  exact call_2 (e1 s h) rfl w
theorem law_ok' {fu tm : List Nat} (L : Long fu tm) {n : Nat} {ns : List Int} {v : A} {h0 : Hs} {T1 T2 T3 : Addr} (hn : 5000 ≤ n) (V : ∀ h, Gm none h0 h → Scr h v ns) (tb : Tb3 h0 T1 T2 T3) : Ev NoX (f_law T1 T2 T3 n [v] h0) fun a h' => a = .bl true := by
  refine ev_body rfl ?_
  unfold d_law
  have e1 : ∀ s h, bin2 addA (conD (.str "[0]")) (bin2 mulA (conD (.str " + [0]")) (conD (.int 499))) n s h = .ok (.str (S tm)) h := fun s h => sum_terms L.tS
  generalize bin2 addA (conD (.str "[0]")) (bin2 mulA (conD (.str " + [0]")) (conD (.int 499))) = f1 at e1 ⊢
  refine step_seq (fun s h' => (∃ a b, s = [some v, a, b, none, none]) ∧ Tb3 h' T1 T2 T3) ?_ ?_
  · unfold forD
    rw [es_then]
    have hm : ∃ m : Nat, m ≤ 2 ∧ consD (cbD bMax (consD (conD (.int 1)) (consD (cbD bMin (consD (conD (.int 2)) (consD (cbD bLen (consD (varD 0) nilD)) nilD))) nilD))) nilD n (List.map some [v] ++ List.replicate (5 - 1) none) h0 = .ok [.int (m : Int)] h0 := by
      refine ⟨if ns.length < 2 then 1 else 2, by split <;> omega, ?_⟩
      have el := (V h0 Gm.refl).len
      show consD (cbD bMax (consD (conD (.int 1)) (consD (cbD bMin (consD (conD (.int 2)) (consD (cbD bLen (consD (varD 0) nilD)) nilD))) nilD))) nilD n [some v, none, none, none, none] h0 = _
      simp only [consD, nilD, cbD, conD, varD, List.getElem?_cons_zero, ok_bind, el]
      show R.ok [A.int (if (if (ns.length : Int) < 2 then (ns.length : Int) else 2) > 1 then (if (ns.length : Int) < 2 then (ns.length : Int) else 2) else 1)] h0 = _
      congr 3
      split <;> split <;> (try split) <;> omega
    obtain ⟨m, hm2, em⟩ := hm
    refine ev_rg1 (m := m) (by omega) ?_
    rw [em, ev_ok]
    refine ⟨rfl, ?_⟩
    refine for_r (m := m) (by omega) (fun j s h1 => (∃ a b, s = [some v, a, b, none, none]) ∧ Tb3 h1 T1 T2 T3 ∧ Gm none h0 h1) ⟨⟨_, _, rfl⟩, tb, Gm.refl⟩ ?_ (fun s h1 z => ⟨z.1, z.2.1⟩)
    rintro j s h1 hj ⟨⟨a, b, rfl⟩, tb1, g1⟩
    refine ⟨[some v, some (.int (0 + (j : Int))), b, none, none], rfl, ?_⟩
    rw [Int.zero_add]
    refine step_seq (fun s h2 => ∃ b, s = [some v, some (.int (j : Int)), some (.ref b), none, none] ∧ Bag h2 b 0 ∧ Tb3 h2 T1 T2 T3 ∧ Gm none h0 h2 ∧ h0.length ≤ b) ?_ ?_
    · refine es_set ?_
      rw [ev_call]
      show Ev _ (R.ok [v, A.int (j : Int)] h1) _
      rw [ev_ok]
      refine ⟨rfl, (law_bag_V (V h1 g1) (by omega)).mono fun a h2 z => ?_⟩
      obtain ⟨b, rfl, B, g2, hb⟩ := z
      exact ⟨b, rfl, B, tb1.keep g2 (fun _ z => by cases z), g1.trans g2, by have := g1.1; omega⟩
    rintro s h2 ⟨b, rfl, B, tb2, g2, hb⟩
    refine spot_ok hn tb2 rfl B (by have := tb.long; omega) fun h4 tb4 g4 => ?_
    refine ⟨⟨_, _, rfl⟩, tb4, ?_⟩
    refine ⟨Nat.le_trans g2.1 g4.1, fun i hi hm => ?_⟩
    rw [g4.2 i (Nat.lt_of_lt_of_le hi g2.1) (fun z => by cases z; omega), g2.2 i hi hm]
  rintro s h1 ⟨⟨a, b, rfl⟩, tb1⟩
  have kn : ∀ i, (none : Option Nat) = some i → 3 ≤ i := fun i z => by cases z
  refine step_seq (fun s h2 => s = [some v, a, b, some (.str (S fu)), none] ∧ Tb3 h2 T1 T2 T3) ?_ ?_
  · refine es_set ?_
    unfold methD
    rw [ev_bind]
    show Ev _ (R.ok (A.str ",") h1) _
    rw [ev_ok]
    show Ev _ (if true = true then _ else _) _
    rw [if_pos rfl, ev_bind, ev_cons1, ev_bin2]
    refine ev_lst ?_
    rw [ev_cons1, ev_bin2]
    show Ev _ (R.ok (A.str "1") h1) _
    rw [ev_ok]
    show Ev _ (R.ok (A.int 49) h1) _
    rw [ev_ok, mul_str (by decide), ev_ok]
    refine ⟨by decide, ?_⟩
    show Ev _ (R.ok (A.int 60) _) _
    rw [ev_ok, show (60 : Int) = ((60 : Nat) : Int) from rfl, mul_ref get_app (by decide) (by decide), newL, ev_ok, show A.str "," = A.str (S [44]) from congrArg A.str c_co,
      L.jn, ev_ok]
    exact ⟨rfl, tb1.keep (Gm.refl.app.app) kn⟩
  rintro s h2 ⟨rfl, tb2⟩
  refine step_seq (fun s h3 => ∃ p : Nat, s = [some v, a, b, some (.str (S fu)), some (.ref p)] ∧ h2.length ≤ p ∧ h3[p]? = some (.lst [.str "fine", .int 2999]) ∧ Gm none h2 h3) ?_ ?_
  · refine es_set (ev_lst ?_)
    rw [ev_cons]
    refine (word_fine tb2.t2 (call_e rfl (read_fine hn (by rw [L.len]; decide) L.sm1 L.t1))).mono fun a h3 z => ?_
    obtain ⟨rfl, g⟩ := z
    rw [ev_cons1, ev_cb1]
    show Ev _ (R.ok (A.str (S fu)) h3) _
    rw [ev_ok, len_S (by rw [L.len]; decide), ev_ok, L.len]
    exact ⟨by simp, _, rfl, g.1, get_app, g.app⟩
  rintro s h3 ⟨p, rfl, hp, e3, g3⟩
  have tab : ∀ h', Gm none h2 h' → h'[2]? = some (.tab T3 nmL) := fun h' g => g.get tb2.t2
  refine step_seq (fun s h' => s = [some v, a, b, some (.str (S fu)), some (.ref p)] ∧ h'[p]? = some (.lst [.str "fine", .int 2999, .str "fine"]) ∧ Gm none h2 h') ?_ ?_
  · refine tell_more (v := 4) rfl e3 (by decide) hp g3 (word_fine (tab _ g3) (call_e (a := .str (S (fu ++ [49]))) ?_ (read_fine hn (by rw [List.length_append, L.len]; decide) L.sm2 L.t2))) fun h' a c => ⟨rfl, a, c⟩
    show addA (.str (S fu)) (.str "1") h3 = _
    rw [show A.str "1" = A.str (S [49]) from congrArg A.str s_1, add_Sif, if_pos (by rw [L.len]; decide)]
  rintro s h4 ⟨rfl, e4, g4⟩
  refine step_seq (fun s h' => s = [some v, a, b, some (.str (S fu)), some (.ref p)] ∧ h'[p]? = some (.lst [.str "fine", .int 2999, .str "fine", .str "parse 0"]) ∧ Gm none h2 h') ?_ ?_
  · refine tell_more (v := 4) rfl e4 (by decide) hp g4 (word_X tells_parse (tab _ g4) (call_e (a := .str (S (fu ++ [49, 44]))) ?_ (Ev.ofEx (read_row_badT (L.bT _))))) fun h' a c => ⟨rfl, a, c⟩
    show addA (.str (S fu)) (.str "1,") h4 = _
    rw [show A.str "1," = A.str (S [49, 44]) from congrArg A.str s_1c, add_Sif, if_pos (by rw [L.len]; decide)]
  rintro s h5 ⟨rfl, e5, g5⟩
  refine step_seq (fun s h' => s = [some v, a, b, some (.str (S fu)), some (.ref p)] ∧ h'[p]? = some (.lst [.str "fine", .int 2999, .str "fine", .str "parse 0", .str "fine"]) ∧ Gm none h2 h') ?_ ?_
  · exact tell_more (v := 4) rfl e5 (by decide) hp g5 (word_fine (tab _ g5) (kinds_call hn L e1)) fun h' a c => ⟨rfl, a, c⟩
  rintro s h6 ⟨rfl, e6, g6⟩
  refine step_seq (fun s h' => s = [some v, a, b, some (.str (S fu)), some (.ref p)] ∧ h'[p]? = some (.lst [.str "fine", .int 2999, .str "fine", .str "parse 0", .str "fine", .str "row"]) ∧ Gm none h2 h') ?_ ?_
  · exact tell_more (v := 4) rfl e6 (by decide) hp g6 (word_X tells_row (tab _ g6) (call_e (a := .tup []) rfl (write_row_bad hn badR_0))) fun h' a c => ⟨rfl, a, c⟩
  rintro s h7 ⟨rfl, e7, g7⟩
  refine step_seq (fun s h' => s = [some v, a, b, some (.str (S fu)), some (.ref p)] ∧ h'[p]? = some (.lst dueK) ∧ Gm none h2 h') ?_ ?_
  · exact tell_more (v := 4) rfl e7 (by decide) hp g7 (word_X tells_kinds (tab _ g7) (call_e (a := .tup (List.replicate 61 (.int 0))) mul_tup0 (write_kinds_bad hn badR_61))) fun h' a c => ⟨rfl, a, c⟩
  rintro s h8 ⟨rfl, e8, g8⟩
  refine es_ret ?_
  simp only [seqD, raiseD, raiseVD, par3D, ex_bind, ev_ex, es_ex, ifD, retD, retND, dropD, setD, nextD, varD, conD, bin2, un1, testD, boolR, notT, andT, orT, ifE, andV, orV, notV, tupD, lstD, cbD, nilD, consD, asgD, parD, nameG, tupG, consG, nilG, setItD, augD, augItD, methD, forD, whileD, lcD, lc2D, sliceD, someD, noneD, chain3, truD, truR, orTD, andTD, notTD, joinedD, glueD, lstRg, rg1, rg2, itRg1, itRg2, itSeq, itEn, dnewKD, newK, newL, maxKD, yesT, wipeA, cmpI, add_I, sub_I, negA, ok_bind, sizeLine_eq, Nat.reduceLeDiff, eq_I, isi_tup, isi_str, isi_int, isi_boo, len_tup, qlt, qle, qgt, qge, rg_if, ev_ok, ev_bind, ev_if, ev_call, es_nx, es_rt, es_seq, es_then, es_if, List.getElem?_cons_succ, List.getElem?_cons_zero, List.set_cons_succ, List.set_cons_zero, List.length_cons, List.length_nil, List.map_cons, List.map_nil, List.replicate, List.cons_append, List.nil_append, Option.bind_some, Option.map_some, Bool.not_true, Bool.not_false, Bool.false_eq_true, if_true, if_false, decide_true, decide_false, true_and, and_true, Nat.zero_add, Nat.add_zero, Nat.reduceAdd, Nat.reduceSub, reduceIte, Nat.sub_self, Nat.succ_sub_succ_eq_sub, Nat.add_one_sub_one]
  have E := eq_same (L := dueK) (neg := false) (p := p) (q := h8.length) (h := h8 ++ [.lst dueK]) ((Gm.refl (m := none)).app.get e8) get_app dueK_D dueK_shaped
  unfold dueK at E
  rw [E, ev_ok]
  rfl
theorem law_ok {n : Nat} {ns : List Int} {v : A} {h0 : Hs} {T1 T2 T3 : Addr} (hn : 5000 ≤ n) (V : ∀ h, Gm none h0 h → Scr h v ns) (tb : Tb3 h0 T1 T2 T3) : Ev NoX (f_law T1 T2 T3 n [v] h0) fun a h' => a = .bl true := law_ok' long_ok hn V tb
end Dn

set_option maxHeartbeats 4000000
namespace Dn
open PySem PySem.Spec PyProof.Rows
open L2 (PE PT PA PS PSs PG PGs PI Cx WX Takes HO Hp VK)
theorem getB {r : Dn.R A} (q : Ev NoX r fun a _ => a = .bl true) : ∃ h', r = .ok (.bl true) h' := by
  obtain ⟨a, h', e, rfl⟩ := q.get
  exact ⟨h', e⟩
theorem law_true {T__law_written_right : Addr} {T__law_read_right : Addr} {T_law : Addr} : ∀ ns : List Int, ns.length ≤ 63 → (∃ n h', f_law T__law_written_right T__law_read_right T_law n [.rol (ns.map A.int)] (tabsH [(0, T__law_written_right), (0, T__law_read_right), (0, T_law)] [((("_law_written_right" : Str) ++ (".<locals>." : Str)) ++ ("<lambda>" : Str)), ((("_law_read_right" : Str) ++ (".<locals>." : Str)) ++ ("<lambda>" : Str)), ((("law" : Str) ++ (".<locals>." : Str)) ++ ("<lambda>" : Str))]) = .ok (.bl true) h') ∧ ∃ n h', f_law T__law_written_right T__law_read_right T_law n [.ref (tabsH [(0, T__law_written_right), (0, T__law_read_right), (0, T_law)] [((("_law_written_right" : Str) ++ (".<locals>." : Str)) ++ ("<lambda>" : Str)), ((("_law_read_right" : Str) ++ (".<locals>." : Str)) ++ ("<lambda>" : Str)), ((("law" : Str) ++ (".<locals>." : Str)) ++ ("<lambda>" : Str))]).length] (tabsH [(0, T__law_written_right), (0, T__law_read_right), (0, T_law)] [((("_law_written_right" : Str) ++ (".<locals>." : Str)) ++ ("<lambda>" : Str)), ((("_law_read_right" : Str) ++ (".<locals>." : Str)) ++ ("<lambda>" : Str)), ((("law" : Str) ++ (".<locals>." : Str)) ++ ("<lambda>" : Str))] ++ [.lst (ns.map A.int)]) = .ok (.bl true) h' := by
  intro ns _
  refine ⟨⟨5000, ?_⟩, 5000, ?_⟩
  · exact getB (law_ok (Nat.le_refl _) (fun h _ => Scr.rol) ⟨rfl, rfl, rfl⟩)
  · exact getB (law_ok (Nat.le_refl _) (fun h g => Scr.ref (g.get get_app)) ⟨rfl, rfl, rfl⟩)
end Dn

set_option maxHeartbeats 0
namespace Dn
open PySem PySem.Spec PyProof.Rows
open L2 (PE PT PA PS PSs PG PGs PI Cx WX Takes HO Hp VK)

theorem fld_given : Dx.FldOk "given" := ⟨by rfl, by rfl, by rfl, by rfl, by decide, by decide, fun _ _ _ _ _ _ _ _ _ _ _ _ _ => by rfl⟩
theorem fld_index : Dx.FldOk "index" := ⟨by rfl, by rfl, by rfl, by rfl, by decide, by decide, fun _ _ _ _ _ _ _ _ _ _ _ _ _ => by rfl⟩
theorem all_mk {l : PySem.W.OpenLaw} {P : Program} {w : World} {K : PySem.W.Frag} {h : Heap} {mg : Str → Option Value} {fa : Addr} (hP : P = l.prog) (X : K.In h) (G : h.Ns mainGlobals mg) (hfa : mg "law" = some (.ref fa)) (hTb : ∀ x ∈ (["_law_written_right", "_law_read_right", "law"] : List Str), ∀ c P, PySem.W.tabIn K x = some (c, P) → PySem.W.CodeHd h c P ∧ h.get? P = some { cls := .none, data := .fields #[] })
    {f0 : Addr} {oc0 kV0 dc0 pm0 ct0 : Value} {od0 an0 : Option Addr} {sl0 : Array (Option Value)} {cd0 : Value}
    {f1 : Addr} {oc1 kV1 dc1 pm1 ct1 : Value} {od1 an1 : Option Addr} {sl1 : Array (Option Value)} {cd1 : Value}
    {f2 : Addr} {oc2 kV2 dc2 pm2 ct2 : Value} {od2 an2 : Option Addr} {sl2 : Array (Option Value)} {cd2 : Value}
    {f3 : Addr} {oc3 kV3 dc3 pm3 ct3 : Value} {od3 an3 : Option Addr} {sl3 : Array (Option Value)} {cd3 : Value}
    {f4 : Addr} {oc4 kV4 dc4 pm4 ct4 : Value} {od4 an4 : Option Addr} {sl4 : Array (Option Value)} {cd4 : Value}
    {f5 : Addr} {oc5 kV5 dc5 pm5 ct5 : Value} {od5 an5 : Option Addr} {sl5 : Array (Option Value)} {cd5 : Value}
    {f6 : Addr} {oc6 kV6 dc6 pm6 ct6 : Value} {od6 an6 : Option Addr} {sl6 : Array (Option Value)} {cd6 : Value}
    {f7 : Addr} {oc7 kV7 dc7 pm7 ct7 : Value} {od7 an7 : Option Addr} {sl7 : Array (Option Value)} {cd7 : Value}
    {f8 : Addr} {oc8 kV8 dc8 pm8 ct8 : Value} {od8 an8 : Option Addr} {sl8 : Array (Option Value)} {cd8 : Value}
    {f9 : Addr} {oc9 kV9 dc9 pm9 ct9 : Value} {od9 an9 : Option Addr} {sl9 : Array (Option Value)} {cd9 : Value}
    {f10 : Addr} {oc10 kV10 dc10 pm10 ct10 : Value} {od10 an10 : Option Addr} {sl10 : Array (Option Value)} {cd10 : Value}
    {f11 : Addr} {oc11 kV11 dc11 pm11 ct11 : Value} {od11 an11 : Option Addr} {sl11 : Array (Option Value)} {cd11 : Value}
    {f12 : Addr} {oc12 kV12 dc12 pm12 ct12 : Value} {od12 an12 : Option Addr} {sl12 : Array (Option Value)} {cd12 : Value}
    {f13 : Addr} {oc13 kV13 dc13 pm13 ct13 : Value} {od13 an13 : Option Addr} {sl13 : Array (Option Value)} {cd13 : Value}
    {f14 : Addr} {oc14 kV14 dc14 pm14 ct14 : Value} {od14 an14 : Option Addr} {sl14 : Array (Option Value)} {cd14 : Value}
    {f15 : Addr} {oc15 kV15 dc15 pm15 ct15 : Value} {od15 an15 : Option Addr} {sl15 : Array (Option Value)} {cd15 : Value}
    {f16 : Addr} {oc16 kV16 dc16 pm16 ct16 : Value} {od16 an16 : Option Addr} {sl16 : Array (Option Value)} {cd16 : Value}
    {f17 : Addr} {oc17 kV17 dc17 pm17 ct17 : Value} {od17 an17 : Option Addr} {sl17 : Array (Option Value)} {cd17 : Value}
    {f18 : Addr} {oc18 kV18 dc18 pm18 ct18 : Value} {od18 an18 : Option Addr} {sl18 : Array (Option Value)} {cd18 : Value}
    {f19 : Addr} {oc19 kV19 dc19 pm19 ct19 : Value} {od19 an19 : Option Addr} {sl19 : Array (Option Value)} {cd19 : Value}
    {f20 : Addr} {oc20 kV20 dc20 pm20 ct20 : Value} {od20 an20 : Option Addr} {sl20 : Array (Option Value)} {cd20 : Value}
    {f21 : Addr} {oc21 kV21 dc21 pm21 ct21 : Value} {od21 an21 : Option Addr} {sl21 : Array (Option Value)} {cd21 : Value}
    {f22 : Addr} {oc22 kV22 dc22 pm22 ct22 : Value} {od22 an22 : Option Addr} {sl22 : Array (Option Value)} {cd22 : Value}
    {f23 : Addr} {oc23 kV23 dc23 pm23 ct23 : Value} {od23 an23 : Option Addr} {sl23 : Array (Option Value)} {cd23 : Value}
    {f24 : Addr} {oc24 kV24 dc24 pm24 ct24 : Value} {od24 an24 : Option Addr} {sl24 : Array (Option Value)} {cd24 : Value}
    {f25 : Addr} {oc25 kV25 dc25 pm25 ct25 : Value} {od25 an25 : Option Addr} {sl25 : Array (Option Value)} {cd25 : Value}
    {f26 : Addr} {oc26 kV26 dc26 pm26 ct26 : Value} {od26 an26 : Option Addr} {sl26 : Array (Option Value)} {cd26 : Value}
    {f27 : Addr} {oc27 kV27 dc27 pm27 ct27 : Value} {od27 an27 : Option Addr} {sl27 : Array (Option Value)} {cd27 : Value}
    {f28 : Addr} {oc28 kV28 dc28 pm28 ct28 : Value} {od28 an28 : Option Addr} {sl28 : Array (Option Value)} {cd28 : Value}
    {f29 : Addr} {oc29 kV29 dc29 pm29 ct29 : Value} {od29 an29 : Option Addr} {sl29 : Array (Option Value)} {cd29 : Value}
    {f30 : Addr} {oc30 kV30 dc30 pm30 ct30 : Value} {od30 an30 : Option Addr} {sl30 : Array (Option Value)} {cd30 : Value}
    {f31 : Addr} {oc31 kV31 dc31 pm31 ct31 : Value} {od31 an31 : Option Addr} {sl31 : Array (Option Value)} {cc31 T__law_written_right : Addr}
    {f32 : Addr} {oc32 kV32 dc32 pm32 ct32 : Value} {od32 an32 : Option Addr} {sl32 : Array (Option Value)} {cd32 : Value}
    {f33 : Addr} {oc33 kV33 dc33 pm33 ct33 : Value} {od33 an33 : Option Addr} {sl33 : Array (Option Value)} {cd33 : Value}
    {f34 : Addr} {oc34 kV34 dc34 pm34 ct34 : Value} {od34 an34 : Option Addr} {sl34 : Array (Option Value)} {cd34 : Value}
    {f35 : Addr} {oc35 kV35 dc35 pm35 ct35 : Value} {od35 an35 : Option Addr} {sl35 : Array (Option Value)} {cd35 : Value}
    {f36 : Addr} {oc36 kV36 dc36 pm36 ct36 : Value} {od36 an36 : Option Addr} {sl36 : Array (Option Value)} {cd36 : Value}
    {f37 : Addr} {oc37 kV37 dc37 pm37 ct37 : Value} {od37 an37 : Option Addr} {sl37 : Array (Option Value)} {cc37 T__law_read_right : Addr}
    {f38 : Addr} {oc38 kV38 dc38 pm38 ct38 : Value} {od38 an38 : Option Addr} {sl38 : Array (Option Value)} {cc38 T_law : Addr}
    {t_FAR : Tok}
    {t_FIGURES : Tok}
    {t_MAX_PLACES : Tok}
    {t_MOST_FIGURES : Tok}
    {t_MOST_MEMBERS : Tok}
    {t_MOST_PLACES : Tok}
    {t_MOST_SIGNS : Tok}
    {t_NOTHING : Tok}
    {t_UNIT : Tok}
    {C_Group : Addr}
    {C_InvalidGroup : Addr}
    {C_InvalidKinds : Addr}
    {C_InvalidMove : Addr}
    {C_InvalidNumber : Addr}
    {C_InvalidRow : Addr}
    {C_ParseError : Addr}
    {fI_InvalidNumber cc_InvalidNumber cda_InvalidNumber : Addr} {qn_InvalidNumber fz_InvalidNumber : Str} {oc_InvalidNumber kV_InvalidNumber dc_InvalidNumber pm_InvalidNumber ct_InvalidNumber : Value} {od_InvalidNumber an_InvalidNumber : Option Addr} {sl_InvalidNumber : Array (Option Value)} {p1_InvalidNumber p2_InvalidNumber a0_InvalidNumber a1_InvalidNumber a2_InvalidNumber a3_InvalidNumber a4_InvalidNumber a5_InvalidNumber b0_InvalidNumber b1_InvalidNumber b2_InvalidNumber b3_InvalidNumber : Pos} {cl_InvalidNumber : Value} {cld_InvalidNumber : Option Addr} {csl_InvalidNumber : Array (Option Value)} {ccl_InvalidNumber : Value} {cdd_InvalidNumber : Option Addr} {vs_InvalidNumber : Array Value} {ccs_InvalidNumber : Array (Option Value)} {tf_InvalidNumber : Tok}
    {fI_ParseError cc_ParseError cda_ParseError : Addr} {qn_ParseError fz_ParseError : Str} {oc_ParseError kV_ParseError dc_ParseError pm_ParseError ct_ParseError : Value} {od_ParseError an_ParseError : Option Addr} {sl_ParseError : Array (Option Value)} {p1_ParseError p2_ParseError a0_ParseError a1_ParseError a2_ParseError a3_ParseError a4_ParseError a5_ParseError b0_ParseError b1_ParseError b2_ParseError b3_ParseError : Pos} {cl_ParseError : Value} {cld_ParseError : Option Addr} {csl_ParseError : Array (Option Value)} {ccl_ParseError : Value} {cdd_ParseError : Option Addr} {vs_ParseError : Array Value} {ccs_ParseError : Array (Option Value)} {tf_ParseError : Tok}
    (a0 : PySem.W.nsIn K mainGlobals "_law_word" = some (some (.ref f0)))
    (l0 : K.lookup f0 = some ⟨oc0, od0, .func (PySem.W.fnOf "_law_word" "_law_word" (L2.defArgs s__law_word) (L2.defBody s__law_word) (L2.defScope s__law_word) .none kV0 dc0 pm0 an0 cd0 ct0), sl0⟩)
    (x0 : PySem.W.codeIn K cd0 "_law_word" = true)
    (k0 : PySem.W.keepIn K (.ref f0) = true)
    (a1 : PySem.W.nsIn K mainGlobals "require_text" = some (some (.ref f1)))
    (l1 : K.lookup f1 = some ⟨oc1, od1, .func (PySem.W.fnOf "require_text" "require_text" (L2.defArgs s_require_text) (L2.defBody s_require_text) (L2.defScope s_require_text) .none kV1 dc1 pm1 an1 cd1 ct1), sl1⟩)
    (x1 : PySem.W.codeIn K cd1 "require_text" = true)
    (k1 : PySem.W.keepIn K (.ref f1) = true)
    (a2 : PySem.W.nsIn K mainGlobals "plain_at" = some (some (.ref f2)))
    (l2 : K.lookup f2 = some ⟨oc2, od2, .func (PySem.W.fnOf "plain_at" "plain_at" (L2.defArgs s_plain_at) (L2.defBody s_plain_at) (L2.defScope s_plain_at) .none kV2 dc2 pm2 an2 cd2 ct2), sl2⟩)
    (x2 : PySem.W.codeIn K cd2 "plain_at" = true)
    (k2 : PySem.W.keepIn K (.ref f2) = true)
    (a3 : PySem.W.nsIn K mainGlobals "signed_at" = some (some (.ref f3)))
    (l3 : K.lookup f3 = some ⟨oc3, od3, .func (PySem.W.fnOf "signed_at" "signed_at" (L2.defArgs s_signed_at) (L2.defBody s_signed_at) (L2.defScope s_signed_at) .none kV3 dc3 pm3 an3 cd3 ct3), sl3⟩)
    (x3 : PySem.W.codeIn K cd3 "signed_at" = true)
    (k3 : PySem.W.keepIn K (.ref f3) = true)
    (a4 : PySem.W.nsIn K mainGlobals "require_end" = some (some (.ref f4)))
    (l4 : K.lookup f4 = some ⟨oc4, od4, .func (PySem.W.fnOf "require_end" "require_end" (L2.defArgs s_require_end) (L2.defBody s_require_end) (L2.defScope s_require_end) .none kV4 dc4 pm4 an4 cd4 ct4), sl4⟩)
    (x4 : PySem.W.codeIn K cd4 "require_end" = true)
    (k4 : PySem.W.keepIn K (.ref f4) = true)
    (a5 : PySem.W.nsIn K mainGlobals "read_row" = some (some (.ref f5)))
    (l5 : K.lookup f5 = some ⟨oc5, od5, .func (PySem.W.fnOf "read_row" "read_row" (L2.defArgs s_read_row) (L2.defBody s_read_row) (L2.defScope s_read_row) .none kV5 dc5 pm5 an5 cd5 ct5), sl5⟩)
    (x5 : PySem.W.codeIn K cd5 "read_row" = true)
    (k5 : PySem.W.keepIn K (.ref f5) = true)
    (a6 : PySem.W.nsIn K mainGlobals "is_plain" = some (some (.ref f6)))
    (l6 : K.lookup f6 = some ⟨oc6, od6, .func (PySem.W.fnOf "is_plain" "is_plain" (L2.defArgs s_is_plain) (L2.defBody s_is_plain) (L2.defScope s_is_plain) .none kV6 dc6 pm6 an6 cd6 ct6), sl6⟩)
    (x6 : PySem.W.codeIn K cd6 "is_plain" = true)
    (k6 : PySem.W.keepIn K (.ref f6) = true)
    (a7 : PySem.W.nsIn K mainGlobals "is_within" = some (some (.ref f7)))
    (l7 : K.lookup f7 = some ⟨oc7, od7, .func (PySem.W.fnOf "is_within" "is_within" (L2.defArgs s_is_within) (L2.defBody s_is_within) (L2.defScope s_is_within) .none kV7 dc7 pm7 an7 cd7 ct7), sl7⟩)
    (x7 : PySem.W.codeIn K cd7 "is_within" = true)
    (k7 : PySem.W.keepIn K (.ref f7) = true)
    (a8 : PySem.W.nsIn K mainGlobals "require_within" = some (some (.ref f8)))
    (l8 : K.lookup f8 = some ⟨oc8, od8, .func (PySem.W.fnOf "require_within" "require_within" (L2.defArgs s_require_within) (L2.defBody s_require_within) (L2.defScope s_require_within) .none kV8 dc8 pm8 an8 cd8 ct8), sl8⟩)
    (x8 : PySem.W.codeIn K cd8 "require_within" = true)
    (k8 : PySem.W.keepIn K (.ref f8) = true)
    (a9 : PySem.W.nsIn K mainGlobals "is_integer" = some (some (.ref f9)))
    (l9 : K.lookup f9 = some ⟨oc9, od9, .func (PySem.W.fnOf "is_integer" "is_integer" (L2.defArgs s_is_integer) (L2.defBody s_is_integer) (L2.defScope s_is_integer) .none kV9 dc9 pm9 an9 cd9 ct9), sl9⟩)
    (x9 : PySem.W.codeIn K cd9 "is_integer" = true)
    (k9 : PySem.W.keepIn K (.ref f9) = true)
    (a10 : PySem.W.nsIn K mainGlobals "are_integers" = some (some (.ref f10)))
    (l10 : K.lookup f10 = some ⟨oc10, od10, .func (PySem.W.fnOf "are_integers" "are_integers" (L2.defArgs s_are_integers) (L2.defBody s_are_integers) (L2.defScope s_are_integers) .none kV10 dc10 pm10 an10 cd10 ct10), sl10⟩)
    (x10 : PySem.W.codeIn K cd10 "are_integers" = true)
    (k10 : PySem.W.keepIn K (.ref f10) = true)
    (a11 : PySem.W.nsIn K mainGlobals "require_sign" = some (some (.ref f11)))
    (l11 : K.lookup f11 = some ⟨oc11, od11, .func (PySem.W.fnOf "require_sign" "require_sign" (L2.defArgs s_require_sign) (L2.defBody s_require_sign) (L2.defScope s_require_sign) .none kV11 dc11 pm11 an11 cd11 ct11), sl11⟩)
    (x11 : PySem.W.codeIn K cd11 "require_sign" = true)
    (k11 : PySem.W.keepIn K (.ref f11) = true)
    (a12 : PySem.W.nsIn K mainGlobals "term_at" = some (some (.ref f12)))
    (l12 : K.lookup f12 = some ⟨oc12, od12, .func (PySem.W.fnOf "term_at" "term_at" (L2.defArgs s_term_at) (L2.defBody s_term_at) (L2.defScope s_term_at) .none kV12 dc12 pm12 an12 cd12 ct12), sl12⟩)
    (x12 : PySem.W.codeIn K cd12 "term_at" = true)
    (k12 : PySem.W.keepIn K (.ref f12) = true)
    (a13 : PySem.W.nsIn K mainGlobals "terms_at" = some (some (.ref f13)))
    (l13 : K.lookup f13 = some ⟨oc13, od13, .func (PySem.W.fnOf "terms_at" "terms_at" (L2.defArgs s_terms_at) (L2.defBody s_terms_at) (L2.defScope s_terms_at) .none kV13 dc13 pm13 an13 cd13 ct13), sl13⟩)
    (x13 : PySem.W.codeIn K cd13 "terms_at" = true)
    (k13 : PySem.W.keepIn K (.ref f13) = true)
    (a14 : PySem.W.nsIn K mainGlobals "read_kinds" = some (some (.ref f14)))
    (l14 : K.lookup f14 = some ⟨oc14, od14, .func (PySem.W.fnOf "read_kinds" "read_kinds" (L2.defArgs s_read_kinds) (L2.defBody s_read_kinds) (L2.defScope s_read_kinds) .none kV14 dc14 pm14 an14 cd14 ct14), sl14⟩)
    (x14 : PySem.W.codeIn K cd14 "read_kinds" = true)
    (k14 : PySem.W.keepIn K (.ref f14) = true)
    (a15 : PySem.W.nsIn K mainGlobals "row_text" = some (some (.ref f15)))
    (l15 : K.lookup f15 = some ⟨oc15, od15, .func (PySem.W.fnOf "row_text" "row_text" (L2.defArgs s_row_text) (L2.defBody s_row_text) (L2.defScope s_row_text) .none kV15 dc15 pm15 an15 cd15 ct15), sl15⟩)
    (x15 : PySem.W.codeIn K cd15 "row_text" = true)
    (k15 : PySem.W.keepIn K (.ref f15) = true)
    (a16 : PySem.W.nsIn K mainGlobals "write_row" = some (some (.ref f16)))
    (l16 : K.lookup f16 = some ⟨oc16, od16, .func (PySem.W.fnOf "write_row" "write_row" (L2.defArgs s_write_row) (L2.defBody s_write_row) (L2.defScope s_write_row) .none kV16 dc16 pm16 an16 cd16 ct16), sl16⟩)
    (x16 : PySem.W.codeIn K cd16 "write_row" = true)
    (k16 : PySem.W.keepIn K (.ref f16) = true)
    (a17 : PySem.W.nsIn K mainGlobals "term_text" = some (some (.ref f17)))
    (l17 : K.lookup f17 = some ⟨oc17, od17, .func (PySem.W.fnOf "term_text" "term_text" (L2.defArgs s_term_text) (L2.defBody s_term_text) (L2.defScope s_term_text) .none kV17 dc17 pm17 an17 cd17 ct17), sl17⟩)
    (x17 : PySem.W.codeIn K cd17 "term_text" = true)
    (k17 : PySem.W.keepIn K (.ref f17) = true)
    (a18 : PySem.W.nsIn K mainGlobals "kinds_text" = some (some (.ref f18)))
    (l18 : K.lookup f18 = some ⟨oc18, od18, .func (PySem.W.fnOf "kinds_text" "kinds_text" (L2.defArgs s_kinds_text) (L2.defBody s_kinds_text) (L2.defScope s_kinds_text) .none kV18 dc18 pm18 an18 cd18 ct18), sl18⟩)
    (x18 : PySem.W.codeIn K cd18 "kinds_text" = true)
    (k18 : PySem.W.keepIn K (.ref f18) = true)
    (a19 : PySem.W.nsIn K mainGlobals "write_kinds" = some (some (.ref f19)))
    (l19 : K.lookup f19 = some ⟨oc19, od19, .func (PySem.W.fnOf "write_kinds" "write_kinds" (L2.defArgs s_write_kinds) (L2.defBody s_write_kinds) (L2.defScope s_write_kinds) .none kV19 dc19 pm19 an19 cd19 ct19), sl19⟩)
    (x19 : PySem.W.codeIn K cd19 "write_kinds" = true)
    (k19 : PySem.W.keepIn K (.ref f19) = true)
    (a20 : PySem.W.nsIn K mainGlobals "_law_bag" = some (some (.ref f20)))
    (l20 : K.lookup f20 = some ⟨oc20, od20, .func (PySem.W.fnOf "_law_bag" "_law_bag" (L2.defArgs s__law_bag) (L2.defBody s__law_bag) (L2.defScope s__law_bag) .none kV20 dc20 pm20 an20 cd20 ct20), sl20⟩)
    (x20 : PySem.W.codeIn K cd20 "_law_bag" = true)
    (k20 : PySem.W.keepIn K (.ref f20) = true)
    (a21 : PySem.W.nsIn K mainGlobals "is_move_of" = some (some (.ref f21)))
    (l21 : K.lookup f21 = some ⟨oc21, od21, .func (PySem.W.fnOf "is_move_of" "is_move_of" (L2.defArgs s_is_move_of) (L2.defBody s_is_move_of) (L2.defScope s_is_move_of) .none kV21 dc21 pm21 an21 cd21 ct21), sl21⟩)
    (x21 : PySem.W.codeIn K cd21 "is_move_of" = true)
    (k21 : PySem.W.keepIn K (.ref f21) = true)
    (a22 : PySem.W.nsIn K mainGlobals "is_any_move" = some (some (.ref f22)))
    (l22 : K.lookup f22 = some ⟨oc22, od22, .func (PySem.W.fnOf "is_any_move" "is_any_move" (L2.defArgs s_is_any_move) (L2.defBody s_is_any_move) (L2.defScope s_is_any_move) .none kV22 dc22 pm22 an22 cd22 ct22), sl22⟩)
    (x22 : PySem.W.codeIn K cd22 "is_any_move" = true)
    (k22 : PySem.W.keepIn K (.ref f22) = true)
    (a23 : PySem.W.nsIn K mainGlobals "cycles_in" = some (some (.ref f23)))
    (l23 : K.lookup f23 = some ⟨oc23, od23, .func (PySem.W.fnOf "cycles_in" "cycles_in" (L2.defArgs s_cycles_in) (L2.defBody s_cycles_in) (L2.defScope s_cycles_in) .none kV23 dc23 pm23 an23 cd23 ct23), sl23⟩)
    (x23 : PySem.W.codeIn K cd23 "cycles_in" = true)
    (k23 : PySem.W.keepIn K (.ref f23) = true)
    (a24 : PySem.W.nsIn K mainGlobals "move_text" = some (some (.ref f24)))
    (l24 : K.lookup f24 = some ⟨oc24, od24, .func (PySem.W.fnOf "move_text" "move_text" (L2.defArgs s_move_text) (L2.defBody s_move_text) (L2.defScope s_move_text) .none kV24 dc24 pm24 an24 cd24 ct24), sl24⟩)
    (x24 : PySem.W.codeIn K cd24 "move_text" = true)
    (k24 : PySem.W.keepIn K (.ref f24) = true)
    (a25 : PySem.W.nsIn K mainGlobals "write_move" = some (some (.ref f25)))
    (l25 : K.lookup f25 = some ⟨oc25, od25, .func (PySem.W.fnOf "write_move" "write_move" (L2.defArgs s_write_move) (L2.defBody s_write_move) (L2.defScope s_write_move) .none kV25 dc25 pm25 an25 cd25 ct25), sl25⟩)
    (x25 : PySem.W.codeIn K cd25 "write_move" = true)
    (k25 : PySem.W.keepIn K (.ref f25) = true)
    (a26 : PySem.W.nsIn K mainGlobals "require_group" = some (some (.ref f26)))
    (l26 : K.lookup f26 = some ⟨oc26, od26, .func (PySem.W.fnOf "require_group" "require_group" (L2.defArgs s_require_group) (L2.defBody s_require_group) (L2.defScope s_require_group) .none kV26 dc26 pm26 an26 cd26 ct26), sl26⟩)
    (x26 : PySem.W.codeIn K cd26 "require_group" = true)
    (k26 : PySem.W.keepIn K (.ref f26) = true)
    (a27 : PySem.W.nsIn K mainGlobals "write_group" = some (some (.ref f27)))
    (l27 : K.lookup f27 = some ⟨oc27, od27, .func (PySem.W.fnOf "write_group" "write_group" (L2.defArgs s_write_group) (L2.defBody s_write_group) (L2.defScope s_write_group) .none kV27 dc27 pm27 an27 cd27 ct27), sl27⟩)
    (x27 : PySem.W.codeIn K cd27 "write_group" = true)
    (k27 : PySem.W.keepIn K (.ref f27) = true)
    (a28 : PySem.W.nsIn K mainGlobals "table_lines" = some (some (.ref f28)))
    (l28 : K.lookup f28 = some ⟨oc28, od28, .func (PySem.W.fnOf "table_lines" "table_lines" (L2.defArgs s_table_lines) (L2.defBody s_table_lines) (L2.defScope s_table_lines) .none kV28 dc28 pm28 an28 cd28 ct28), sl28⟩)
    (x28 : PySem.W.codeIn K cd28 "table_lines" = true)
    (k28 : PySem.W.keepIn K (.ref f28) = true)
    (a29 : PySem.W.nsIn K mainGlobals "_law_grab" = some (some (.ref f29)))
    (l29 : K.lookup f29 = some ⟨oc29, od29, .func (PySem.W.fnOf "_law_grab" "_law_grab" (L2.defArgs s__law_grab) (L2.defBody s__law_grab) (L2.defScope s__law_grab) .none kV29 dc29 pm29 an29 cd29 ct29), sl29⟩)
    (x29 : PySem.W.codeIn K cd29 "_law_grab" = true)
    (k29 : PySem.W.keepIn K (.ref f29) = true)
    (a30 : PySem.W.nsIn K mainGlobals "_law_one_of" = some (some (.ref f30)))
    (l30 : K.lookup f30 = some ⟨oc30, od30, .func (PySem.W.fnOf "_law_one_of" "_law_one_of" (L2.defArgs s__law_one_of) (L2.defBody s__law_one_of) (L2.defScope s__law_one_of) .none kV30 dc30 pm30 an30 cd30 ct30), sl30⟩)
    (x30 : PySem.W.codeIn K cd30 "_law_one_of" = true)
    (k30 : PySem.W.keepIn K (.ref f30) = true)
    (a31 : PySem.W.nsIn K mainGlobals "_law_written_right" = some (some (.ref f31)))
    (l31 : K.lookup f31 = some ⟨oc31, od31, .func (PySem.W.fnOf "_law_written_right" "_law_written_right" (L2.defArgs s__law_written_right) (L2.defBody s__law_written_right) (L2.defScope s__law_written_right) .none kV31 dc31 pm31 an31 (.ref cc31) ct31), sl31⟩)
    (x31 : PySem.W.codeIn K (.ref cc31) "_law_written_right" = true)
    (k31 : PySem.W.keepIn K (.ref f31) = true)
    (t31 : PySem.W.tabIn K "_law_written_right" = some (cc31, T__law_written_right))
    (u31 : K.lookup T__law_written_right = none)
    (a32 : PySem.W.nsIn K mainGlobals "cycle_at" = some (some (.ref f32)))
    (l32 : K.lookup f32 = some ⟨oc32, od32, .func (PySem.W.fnOf "cycle_at" "cycle_at" (L2.defArgs s_cycle_at) (L2.defBody s_cycle_at) (L2.defScope s_cycle_at) .none kV32 dc32 pm32 an32 cd32 ct32), sl32⟩)
    (x32 : PySem.W.codeIn K cd32 "cycle_at" = true)
    (k32 : PySem.W.keepIn K (.ref f32) = true)
    (a33 : PySem.W.nsIn K mainGlobals "cycles_at" = some (some (.ref f33)))
    (l33 : K.lookup f33 = some ⟨oc33, od33, .func (PySem.W.fnOf "cycles_at" "cycles_at" (L2.defArgs s_cycles_at) (L2.defBody s_cycles_at) (L2.defScope s_cycles_at) .none kV33 dc33 pm33 an33 cd33 ct33), sl33⟩)
    (x33 : PySem.W.codeIn K cd33 "cycles_at" = true)
    (k33 : PySem.W.keepIn K (.ref f33) = true)
    (a34 : PySem.W.nsIn K mainGlobals "move_told" = some (some (.ref f34)))
    (l34 : K.lookup f34 = some ⟨oc34, od34, .func (PySem.W.fnOf "move_told" "move_told" (L2.defArgs s_move_told) (L2.defBody s_move_told) (L2.defScope s_move_told) .none kV34 dc34 pm34 an34 cd34 ct34), sl34⟩)
    (x34 : PySem.W.codeIn K cd34 "move_told" = true)
    (k34 : PySem.W.keepIn K (.ref f34) = true)
    (a35 : PySem.W.nsIn K mainGlobals "read_move" = some (some (.ref f35)))
    (l35 : K.lookup f35 = some ⟨oc35, od35, .func (PySem.W.fnOf "read_move" "read_move" (L2.defArgs s_read_move) (L2.defBody s_read_move) (L2.defScope s_read_move) .none kV35 dc35 pm35 an35 cd35 ct35), sl35⟩)
    (x35 : PySem.W.codeIn K cd35 "read_move" = true)
    (k35 : PySem.W.keepIn K (.ref f35) = true)
    (a36 : PySem.W.nsIn K mainGlobals "read_group" = some (some (.ref f36)))
    (l36 : K.lookup f36 = some ⟨oc36, od36, .func (PySem.W.fnOf "read_group" "read_group" (L2.defArgs s_read_group) (L2.defBody s_read_group) (L2.defScope s_read_group) .none kV36 dc36 pm36 an36 cd36 ct36), sl36⟩)
    (x36 : PySem.W.codeIn K cd36 "read_group" = true)
    (k36 : PySem.W.keepIn K (.ref f36) = true)
    (a37 : PySem.W.nsIn K mainGlobals "_law_read_right" = some (some (.ref f37)))
    (l37 : K.lookup f37 = some ⟨oc37, od37, .func (PySem.W.fnOf "_law_read_right" "_law_read_right" (L2.defArgs s__law_read_right) (L2.defBody s__law_read_right) (L2.defScope s__law_read_right) .none kV37 dc37 pm37 an37 (.ref cc37) ct37), sl37⟩)
    (x37 : PySem.W.codeIn K (.ref cc37) "_law_read_right" = true)
    (k37 : PySem.W.keepIn K (.ref f37) = true)
    (t37 : PySem.W.tabIn K "_law_read_right" = some (cc37, T__law_read_right))
    (u37 : K.lookup T__law_read_right = none)
    (a38 : PySem.W.nsIn K mainGlobals "law" = some (some (.ref f38)))
    (l38 : K.lookup f38 = some ⟨oc38, od38, .func (PySem.W.fnOf "law" "law" (L2.defArgs s_law) (L2.defBody s_law) (L2.defScope s_law) .none kV38 dc38 pm38 an38 (.ref cc38) ct38), sl38⟩)
    (x38 : PySem.W.codeIn K (.ref cc38) "law" = true)
    (k38 : PySem.W.keepIn K (.ref f38) = true)
    (t38 : PySem.W.tabIn K "law" = some (cc38, T_law))
    (u38 : K.lookup T_law = none)
    (c_FAR : PySem.W.nsIn K mainGlobals "FAR" = some (some (.int 1000000000000000000000000000000000000000000000000000000000000 t_FAR)))
    (c_FIGURES : PySem.W.nsIn K mainGlobals "FIGURES" = some (some (.str "0123456789" t_FIGURES)))
    (c_MAX_PLACES : PySem.W.nsIn K mainGlobals "MAX_PLACES" = some (some (.int 24 t_MAX_PLACES)))
    (c_MOST_FIGURES : PySem.W.nsIn K mainGlobals "MOST_FIGURES" = some (some (.int 60 t_MOST_FIGURES)))
    (c_MOST_MEMBERS : PySem.W.nsIn K mainGlobals "MOST_MEMBERS" = some (some (.int 60 t_MOST_MEMBERS)))
    (c_MOST_PLACES : PySem.W.nsIn K mainGlobals "MOST_PLACES" = some (some (.int 24 t_MOST_PLACES)))
    (c_MOST_SIGNS : PySem.W.nsIn K mainGlobals "MOST_SIGNS" = some (some (.int 3000 t_MOST_SIGNS)))
    (c_NOTHING : PySem.W.nsIn K mainGlobals "NOTHING" = some (some (.str "0" t_NOTHING)))
    (c_UNIT : PySem.W.nsIn K mainGlobals "UNIT" = some (some (.str "()" t_UNIT)))
    (n_abs : PySem.W.nsIn K mainGlobals "abs" = some none)
    (n_all : PySem.W.nsIn K mainGlobals "all" = some none)
    (n_any : PySem.W.nsIn K mainGlobals "any" = some none)
    (n_bool : PySem.W.nsIn K mainGlobals "bool" = some none)
    (n_enumerate : PySem.W.nsIn K mainGlobals "enumerate" = some none)
    (n_int : PySem.W.nsIn K mainGlobals "int" = some none)
    (n_isinstance : PySem.W.nsIn K mainGlobals "isinstance" = some none)
    (n_len : PySem.W.nsIn K mainGlobals "len" = some none)
    (n_list : PySem.W.nsIn K mainGlobals "list" = some none)
    (n_max : PySem.W.nsIn K mainGlobals "max" = some none)
    (n_min : PySem.W.nsIn K mainGlobals "min" = some none)
    (n_range : PySem.W.nsIn K mainGlobals "range" = some none)
    (n_repr : PySem.W.nsIn K mainGlobals "repr" = some none)
    (n_sorted : PySem.W.nsIn K mainGlobals "sorted" = some none)
    (n_str : PySem.W.nsIn K mainGlobals "str" = some none)
    (n_sum : PySem.W.nsIn K mainGlobals "sum" = some none)
    (n_tuple : PySem.W.nsIn K mainGlobals "tuple" = some none)
    (a_Group : PySem.W.nsIn K mainGlobals "Group" = some (some (.ref C_Group)))
    (a_InvalidGroup : PySem.W.nsIn K mainGlobals "InvalidGroup" = some (some (.ref C_InvalidGroup)))
    (a_InvalidKinds : PySem.W.nsIn K mainGlobals "InvalidKinds" = some (some (.ref C_InvalidKinds)))
    (a_InvalidMove : PySem.W.nsIn K mainGlobals "InvalidMove" = some (some (.ref C_InvalidMove)))
    (a_InvalidNumber : PySem.W.nsIn K mainGlobals "InvalidNumber" = some (some (.ref C_InvalidNumber)))
    (a_InvalidRow : PySem.W.nsIn K mainGlobals "InvalidRow" = some (some (.ref C_InvalidRow)))
    (a_ParseError : PySem.W.nsIn K mainGlobals "ParseError" = some (some (.ref C_ParseError)))
    (ki_Group_NoneType : PySem.W.kitOne K (.type "NoneType") (.ref C_Group) = some false)
    (ki_Group_bool : PySem.W.kitOne K (.type "bool") (.ref C_Group) = some false)
    (ki_Group_int : PySem.W.kitOne K (.type "int") (.ref C_Group) = some false)
    (ki_Group_str : PySem.W.kitOne K (.type "str") (.ref C_Group) = some false)
    (ki_Group_tuple : PySem.W.kitOne K (.type "tuple") (.ref C_Group) = some false)
    (ki_Group_list : PySem.W.kitOne K (.type "list") (.ref C_Group) = some false)
    (ki_Group_dict : PySem.W.kitOne K (.type "dict") (.ref C_Group) = some false)
    (st_InvalidGroup : PySem.W.subIn K (.ref C_InvalidGroup) (.type "StopIteration") = some false)
    (kp_InvalidGroup : PySem.W.keepIn K (.ref C_InvalidGroup) = true)
    (sb_InvalidGroup : PySem.W.subIn K (.ref C_InvalidGroup) (.type "BaseException") = some true)
    (ty_InvalidGroup : PySem.W.typeIn K (.ref C_InvalidGroup) = some (.type "type"))
    (ei_InvalidGroup : PySem.W.excIn K C_InvalidGroup [.type "ValueError", .type "Exception", .type "BaseException", .type "object"] "ValueError.__new__" = true)
    (kp_InvalidKinds : PySem.W.keepIn K (.ref C_InvalidKinds) = true)
    (sb_InvalidKinds : PySem.W.subIn K (.ref C_InvalidKinds) (.type "BaseException") = some true)
    (ty_InvalidKinds : PySem.W.typeIn K (.ref C_InvalidKinds) = some (.type "type"))
    (ei_InvalidKinds : PySem.W.excIn K C_InvalidKinds [.type "ValueError", .type "Exception", .type "BaseException", .type "object"] "ValueError.__new__" = true)
    (kp_InvalidMove : PySem.W.keepIn K (.ref C_InvalidMove) = true)
    (sb_InvalidMove : PySem.W.subIn K (.ref C_InvalidMove) (.type "BaseException") = some true)
    (ty_InvalidMove : PySem.W.typeIn K (.ref C_InvalidMove) = some (.type "type"))
    (ei_InvalidMove : PySem.W.excIn K C_InvalidMove [.type "ValueError", .type "Exception", .type "BaseException", .type "object"] "ValueError.__new__" = true)
    (kp_InvalidNumber : PySem.W.keepIn K (.ref C_InvalidNumber) = true)
    (sb_InvalidNumber : PySem.W.subIn K (.ref C_InvalidNumber) (.type "BaseException") = some true)
    (ty_InvalidNumber : PySem.W.typeIn K (.ref C_InvalidNumber) = some (.type "type"))
    (ei_InvalidNumber : PySem.W.excInitIn K C_InvalidNumber [.type "IndexError", .type "LookupError", .type "Exception", .type "BaseException", .type "object"] "IndexError.__new__" = true)
    (eo_InvalidNumber : PySem.W.excOver K C_InvalidNumber [.type "IndexError", .type "LookupError", .type "Exception", .type "BaseException", .type "object"] = true)
    (sa_InvalidNumber : PySem.W.findIn K (.ref C_InvalidNumber) "__setattr__" = some (some (.builtin "object.__setattr__")))
    (tk_InvalidNumber : PySem.W.takerIn K C_InvalidNumber "given" = some none)
    (hd_InvalidNumber : PySem.W.hasDictIn K C_InvalidNumber = true)
    (fi_InvalidNumber : PySem.W.findIn K (.ref C_InvalidNumber) "__init__" = some (some (.ref fI_InvalidNumber)))
    (ft_InvalidNumber : PySem.W.typeIn K (.ref fI_InvalidNumber) = some (.type "function"))
    (sB_InvalidNumber : PySem.W.subIn K (.ref C_InvalidNumber) (.type "IndexError") = some true)
    (mo_InvalidNumber : PySem.W.mroIn K C_InvalidNumber (.ref C_InvalidNumber) = some true)
    (ks_InvalidNumber : PySem.W.ks_superIn K C_InvalidNumber C_InvalidNumber "__init__" = some (some (.builtin "IndexError.__init__")))
    (lf_InvalidNumber : K.lookup fI_InvalidNumber = some ⟨oc_InvalidNumber, od_InvalidNumber, .func (PySem.W.ksFn "__init__" qn_InvalidNumber (Dx.supA "given" p1_InvalidNumber p2_InvalidNumber) (Dx.supB "given" a0_InvalidNumber a1_InvalidNumber a2_InvalidNumber a3_InvalidNumber a4_InvalidNumber a5_InvalidNumber b0_InvalidNumber b1_InvalidNumber b2_InvalidNumber b3_InvalidNumber) (Dx.supS "given") .none kV_InvalidNumber dc_InvalidNumber pm_InvalidNumber an_InvalidNumber (.ref cda_InvalidNumber) ct_InvalidNumber cc_InvalidNumber), sl_InvalidNumber⟩)
    (cd_InvalidNumber : PySem.W.codeIn K (.ref cda_InvalidNumber) qn_InvalidNumber = true)
    (lc_InvalidNumber : K.lookup cc_InvalidNumber = some ⟨cl_InvalidNumber, cld_InvalidNumber, .cell (some (.ref C_InvalidNumber)), csl_InvalidNumber⟩)
    (lv_InvalidNumber : K.lookup cda_InvalidNumber = some ⟨ccl_InvalidNumber, cdd_InvalidNumber, .fields vs_InvalidNumber, ccs_InvalidNumber⟩)
    (v2_InvalidNumber : vs_InvalidNumber[2]? = some (.str fz_InvalidNumber tf_InvalidNumber))
    (pf_InvalidNumber : ((P.main.file : Str) == fz_InvalidNumber) = true)
    (po_InvalidNumber : (a2_InvalidNumber.endLine == a4_InvalidNumber.line) = true)
    (kp_InvalidRow : PySem.W.keepIn K (.ref C_InvalidRow) = true)
    (sb_InvalidRow : PySem.W.subIn K (.ref C_InvalidRow) (.type "BaseException") = some true)
    (ty_InvalidRow : PySem.W.typeIn K (.ref C_InvalidRow) = some (.type "type"))
    (ei_InvalidRow : PySem.W.excIn K C_InvalidRow [.type "ValueError", .type "Exception", .type "BaseException", .type "object"] "ValueError.__new__" = true)
    (kp_ParseError : PySem.W.keepIn K (.ref C_ParseError) = true)
    (sb_ParseError : PySem.W.subIn K (.ref C_ParseError) (.type "BaseException") = some true)
    (ty_ParseError : PySem.W.typeIn K (.ref C_ParseError) = some (.type "type"))
    (ei_ParseError : PySem.W.excInitIn K C_ParseError [.type "ValueError", .type "Exception", .type "BaseException", .type "object"] "ValueError.__new__" = true)
    (eo_ParseError : PySem.W.excOver K C_ParseError [.type "ValueError", .type "Exception", .type "BaseException", .type "object"] = true)
    (sa_ParseError : PySem.W.findIn K (.ref C_ParseError) "__setattr__" = some (some (.builtin "object.__setattr__")))
    (tk_ParseError : PySem.W.takerIn K C_ParseError "index" = some none)
    (hd_ParseError : PySem.W.hasDictIn K C_ParseError = true)
    (fi_ParseError : PySem.W.findIn K (.ref C_ParseError) "__init__" = some (some (.ref fI_ParseError)))
    (ft_ParseError : PySem.W.typeIn K (.ref fI_ParseError) = some (.type "function"))
    (sB_ParseError : PySem.W.subIn K (.ref C_ParseError) (.type "ValueError") = some true)
    (mo_ParseError : PySem.W.mroIn K C_ParseError (.ref C_ParseError) = some true)
    (ks_ParseError : PySem.W.ks_superIn K C_ParseError C_ParseError "__init__" = some (some (.builtin "ValueError.__init__")))
    (lf_ParseError : K.lookup fI_ParseError = some ⟨oc_ParseError, od_ParseError, .func (PySem.W.ksFn "__init__" qn_ParseError (Dx.supA "index" p1_ParseError p2_ParseError) (Dx.supB "index" a0_ParseError a1_ParseError a2_ParseError a3_ParseError a4_ParseError a5_ParseError b0_ParseError b1_ParseError b2_ParseError b3_ParseError) (Dx.supS "index") .none kV_ParseError dc_ParseError pm_ParseError an_ParseError (.ref cda_ParseError) ct_ParseError cc_ParseError), sl_ParseError⟩)
    (cd_ParseError : PySem.W.codeIn K (.ref cda_ParseError) qn_ParseError = true)
    (lc_ParseError : K.lookup cc_ParseError = some ⟨cl_ParseError, cld_ParseError, .cell (some (.ref C_ParseError)), csl_ParseError⟩)
    (lv_ParseError : K.lookup cda_ParseError = some ⟨ccl_ParseError, cdd_ParseError, .fields vs_ParseError, ccs_ParseError⟩)
    (v2_ParseError : vs_ParseError[2]? = some (.str fz_ParseError tf_ParseError))
    (pf_ParseError : ((P.main.file : Str) == fz_ParseError) = true)
    (po_ParseError : (a2_ParseError.endLine == a4_ParseError.line) = true)
    (n_stat : PySem.W.nsIn K PySem.cStatics "thirdparty.any" = some none)
    (n_super : PySem.W.nsIn K mainGlobals "super" = some none)
    (topsup : (P.main.scope.names.lookup ("super" : Str)).isSome = false)
    (xf_ParseError : L2.xfB K C_ParseError = true)
    (fz_ParseError : PySem.W.findIn K (.ref C_ParseError) "index" = some none)
    (xf_InvalidNumber : L2.xfB K C_InvalidNumber = true)
    (fz_InvalidNumber : PySem.W.findIn K (.ref C_InvalidNumber) "given" = some none)
    (ex_InvalidGroup_InvalidGroup : PySem.W.exmOne K (.ref C_InvalidGroup) (.ref C_InvalidGroup) = some true)
    (ex_InvalidGroup_InvalidKinds : PySem.W.exmOne K (.ref C_InvalidGroup) (.ref C_InvalidKinds) = some false)
    (ex_InvalidGroup_InvalidMove : PySem.W.exmOne K (.ref C_InvalidGroup) (.ref C_InvalidMove) = some false)
    (ex_InvalidGroup_InvalidNumber : PySem.W.exmOne K (.ref C_InvalidGroup) (.ref C_InvalidNumber) = some false)
    (ex_InvalidGroup_InvalidRow : PySem.W.exmOne K (.ref C_InvalidGroup) (.ref C_InvalidRow) = some false)
    (ex_InvalidGroup_ParseError : PySem.W.exmOne K (.ref C_InvalidGroup) (.ref C_ParseError) = some false)
    (ex_InvalidKinds_InvalidGroup : PySem.W.exmOne K (.ref C_InvalidKinds) (.ref C_InvalidGroup) = some false)
    (ex_InvalidKinds_InvalidKinds : PySem.W.exmOne K (.ref C_InvalidKinds) (.ref C_InvalidKinds) = some true)
    (ex_InvalidKinds_InvalidMove : PySem.W.exmOne K (.ref C_InvalidKinds) (.ref C_InvalidMove) = some false)
    (ex_InvalidKinds_InvalidNumber : PySem.W.exmOne K (.ref C_InvalidKinds) (.ref C_InvalidNumber) = some false)
    (ex_InvalidKinds_InvalidRow : PySem.W.exmOne K (.ref C_InvalidKinds) (.ref C_InvalidRow) = some false)
    (ex_InvalidKinds_ParseError : PySem.W.exmOne K (.ref C_InvalidKinds) (.ref C_ParseError) = some false)
    (ex_InvalidMove_InvalidGroup : PySem.W.exmOne K (.ref C_InvalidMove) (.ref C_InvalidGroup) = some false)
    (ex_InvalidMove_InvalidKinds : PySem.W.exmOne K (.ref C_InvalidMove) (.ref C_InvalidKinds) = some false)
    (ex_InvalidMove_InvalidMove : PySem.W.exmOne K (.ref C_InvalidMove) (.ref C_InvalidMove) = some true)
    (ex_InvalidMove_InvalidNumber : PySem.W.exmOne K (.ref C_InvalidMove) (.ref C_InvalidNumber) = some false)
    (ex_InvalidMove_InvalidRow : PySem.W.exmOne K (.ref C_InvalidMove) (.ref C_InvalidRow) = some false)
    (ex_InvalidMove_ParseError : PySem.W.exmOne K (.ref C_InvalidMove) (.ref C_ParseError) = some false)
    (ex_InvalidNumber_InvalidGroup : PySem.W.exmOne K (.ref C_InvalidNumber) (.ref C_InvalidGroup) = some false)
    (ex_InvalidNumber_InvalidKinds : PySem.W.exmOne K (.ref C_InvalidNumber) (.ref C_InvalidKinds) = some false)
    (ex_InvalidNumber_InvalidMove : PySem.W.exmOne K (.ref C_InvalidNumber) (.ref C_InvalidMove) = some false)
    (ex_InvalidNumber_InvalidNumber : PySem.W.exmOne K (.ref C_InvalidNumber) (.ref C_InvalidNumber) = some true)
    (ex_InvalidNumber_InvalidRow : PySem.W.exmOne K (.ref C_InvalidNumber) (.ref C_InvalidRow) = some false)
    (ex_InvalidNumber_ParseError : PySem.W.exmOne K (.ref C_InvalidNumber) (.ref C_ParseError) = some false)
    (ex_InvalidRow_InvalidGroup : PySem.W.exmOne K (.ref C_InvalidRow) (.ref C_InvalidGroup) = some false)
    (ex_InvalidRow_InvalidKinds : PySem.W.exmOne K (.ref C_InvalidRow) (.ref C_InvalidKinds) = some false)
    (ex_InvalidRow_InvalidMove : PySem.W.exmOne K (.ref C_InvalidRow) (.ref C_InvalidMove) = some false)
    (ex_InvalidRow_InvalidNumber : PySem.W.exmOne K (.ref C_InvalidRow) (.ref C_InvalidNumber) = some false)
    (ex_InvalidRow_InvalidRow : PySem.W.exmOne K (.ref C_InvalidRow) (.ref C_InvalidRow) = some true)
    (ex_InvalidRow_ParseError : PySem.W.exmOne K (.ref C_InvalidRow) (.ref C_ParseError) = some false)
    (ex_ParseError_InvalidGroup : PySem.W.exmOne K (.ref C_ParseError) (.ref C_InvalidGroup) = some false)
    (ex_ParseError_InvalidKinds : PySem.W.exmOne K (.ref C_ParseError) (.ref C_InvalidKinds) = some false)
    (ex_ParseError_InvalidMove : PySem.W.exmOne K (.ref C_ParseError) (.ref C_InvalidMove) = some false)
    (ex_ParseError_InvalidNumber : PySem.W.exmOne K (.ref C_ParseError) (.ref C_InvalidNumber) = some false)
    (ex_ParseError_InvalidRow : PySem.W.exmOne K (.ref C_ParseError) (.ref C_InvalidRow) = some false)
    (ex_ParseError_ParseError : PySem.W.exmOne K (.ref C_ParseError) (.ref C_ParseError) = some true)
    (nd : ([T__law_written_right, T__law_read_right, T_law] : List Addr).Nodup) :
    QuietAt l w K 9 63 "_law_script" mg fa h := by
  have e := hfa.symm.trans (PySem.W.mg_of X G a38)
  cases e
  subst hP
  have F0 := L2.fun_mk (st := s__law_word) l0 x0 k0
  have b0 := F0.binds (ps := ["_law_call"]) fun _ _ _ _ _ _ us hl => match us, hl with | [_], _ => rfl
  have F1 := L2.fun_mk (st := s_require_text) l1 x1 k1
  have b1 := F1.binds (ps := ["value"]) fun _ _ _ _ _ _ us hl => match us, hl with | [_], _ => rfl
  have F2 := L2.fun_mk (st := s_plain_at) l2 x2 k2
  have b2 := F2.binds (ps := ["text", "index"]) fun _ _ _ _ _ _ us hl => match us, hl with | [_, _], _ => rfl
  have F3 := L2.fun_mk (st := s_signed_at) l3 x3 k3
  have b3 := F3.binds (ps := ["text", "index"]) fun _ _ _ _ _ _ us hl => match us, hl with | [_, _], _ => rfl
  have F4 := L2.fun_mk (st := s_require_end) l4 x4 k4
  have b4 := F4.binds (ps := ["text", "index"]) fun _ _ _ _ _ _ us hl => match us, hl with | [_, _], _ => rfl
  have F5 := L2.fun_mk (st := s_read_row) l5 x5 k5
  have b5 := F5.binds (ps := ["text"]) fun _ _ _ _ _ _ us hl => match us, hl with | [_], _ => rfl
  have F6 := L2.fun_mk (st := s_is_plain) l6 x6 k6
  have b6 := F6.binds (ps := ["value"]) fun _ _ _ _ _ _ us hl => match us, hl with | [_], _ => rfl
  have F7 := L2.fun_mk (st := s_is_within) l7 x7 k7
  have b7 := F7.binds (ps := ["value", "low", "high"]) fun _ _ _ _ _ _ us hl => match us, hl with | [_, _, _], _ => rfl
  have F8 := L2.fun_mk (st := s_require_within) l8 x8 k8
  have b8 := F8.binds (ps := ["value", "low", "high"]) fun _ _ _ _ _ _ us hl => match us, hl with | [_, _, _], _ => rfl
  have F9 := L2.fun_mk (st := s_is_integer) l9 x9 k9
  have b9 := F9.binds (ps := ["value"]) fun _ _ _ _ _ _ us hl => match us, hl with | [_], _ => rfl
  have F10 := L2.fun_mk (st := s_are_integers) l10 x10 k10
  have b10 := F10.binds (ps := ["value"]) fun _ _ _ _ _ _ us hl => match us, hl with | [_], _ => rfl
  have F11 := L2.fun_mk (st := s_require_sign) l11 x11 k11
  have b11 := F11.binds (ps := ["text", "index", "sign"]) fun _ _ _ _ _ _ us hl => match us, hl with | [_, _, _], _ => rfl
  have F12 := L2.fun_mk (st := s_term_at) l12 x12 k12
  have b12 := F12.binds (ps := ["text", "index"]) fun _ _ _ _ _ _ us hl => match us, hl with | [_, _], _ => rfl
  have F13 := L2.fun_mk (st := s_terms_at) l13 x13 k13
  have b13 := F13.binds (ps := ["text"]) fun _ _ _ _ _ _ us hl => match us, hl with | [_], _ => rfl
  have F14 := L2.fun_mk (st := s_read_kinds) l14 x14 k14
  have b14 := F14.binds (ps := ["text", "length"]) fun _ _ _ _ _ _ us hl => match us, hl with | [_, _], _ => rfl
  have F15 := L2.fun_mk (st := s_row_text) l15 x15 k15
  have b15 := F15.binds (ps := ["row"]) fun _ _ _ _ _ _ us hl => match us, hl with | [_], _ => rfl
  have F16 := L2.fun_mk (st := s_write_row) l16 x16 k16
  have b16 := F16.binds (ps := ["row"]) fun _ _ _ _ _ _ us hl => match us, hl with | [_], _ => rfl
  have F17 := L2.fun_mk (st := s_term_text) l17 x17 k17
  have b17 := F17.binds (ps := ["number", "index"]) fun _ _ _ _ _ _ us hl => match us, hl with | [_, _], _ => rfl
  have F18 := L2.fun_mk (st := s_kinds_text) l18 x18 k18
  have b18 := F18.binds (ps := ["kinds"]) fun _ _ _ _ _ _ us hl => match us, hl with | [_], _ => rfl
  have F19 := L2.fun_mk (st := s_write_kinds) l19 x19 k19
  have b19 := F19.binds (ps := ["kinds"]) fun _ _ _ _ _ _ us hl => match us, hl with | [_], _ => rfl
  have F20 := L2.fun_mk (st := s__law_bag) l20 x20 k20
  have b20 := F20.binds (ps := ["_law_script", "_law_spot"]) fun _ _ _ _ _ _ us hl => match us, hl with | [_, _], _ => rfl
  have F21 := L2.fun_mk (st := s_is_move_of) l21 x21 k21
  have b21 := F21.binds (ps := ["places", "value"]) fun _ _ _ _ _ _ us hl => match us, hl with | [_, _], _ => rfl
  have F22 := L2.fun_mk (st := s_is_any_move) l22 x22 k22
  have b22 := F22.binds (ps := ["value"]) fun _ _ _ _ _ _ us hl => match us, hl with | [_], _ => rfl
  have F23 := L2.fun_mk (st := s_cycles_in) l23 x23 k23
  have b23 := F23.binds (ps := ["move"]) fun _ _ _ _ _ _ us hl => match us, hl with | [_], _ => rfl
  have F24 := L2.fun_mk (st := s_move_text) l24 x24 k24
  have b24 := F24.binds (ps := ["move"]) fun _ _ _ _ _ _ us hl => match us, hl with | [_], _ => rfl
  have F25 := L2.fun_mk (st := s_write_move) l25 x25 k25
  have b25 := F25.binds (ps := ["move"]) fun _ _ _ _ _ _ us hl => match us, hl with | [_], _ => rfl
  have F26 := L2.fun_mk (st := s_require_group) l26 x26 k26
  have b26 := F26.binds (ps := ["value"]) fun _ _ _ _ _ _ us hl => match us, hl with | [_], _ => rfl
  have F27 := L2.fun_mk (st := s_write_group) l27 x27 k27
  have b27 := F27.binds (ps := ["group"]) fun _ _ _ _ _ _ us hl => match us, hl with | [_], _ => rfl
  have F28 := L2.fun_mk (st := s_table_lines) l28 x28 k28
  have b28 := F28.binds (ps := ["group"]) fun _ _ _ _ _ _ us hl => match us, hl with | [_], _ => rfl
  have F29 := L2.fun_mk (st := s__law_grab) l29 x29 k29
  have b29 := F29.binds (ps := ["_law_bag_here", "_law_total"]) fun _ _ _ _ _ _ us hl => match us, hl with | [_, _], _ => rfl
  have F30 := L2.fun_mk (st := s__law_one_of) l30 x30 k30
  have b30 := F30.binds (ps := ["_law_bag_here", "_law_items"]) fun _ _ _ _ _ _ us hl => match us, hl with | [_, _], _ => rfl
  have F31 := L2.fun_mk (st := s__law_written_right) l31 x31 k31
  have b31 := F31.binds (ps := ["_law_bag_here"]) fun _ _ _ _ _ _ us hl => match us, hl with | [_], _ => rfl
  have F32 := L2.fun_mk (st := s_cycle_at) l32 x32 k32
  have b32 := F32.binds (ps := ["text", "index"]) fun _ _ _ _ _ _ us hl => match us, hl with | [_, _], _ => rfl
  have F33 := L2.fun_mk (st := s_cycles_at) l33 x33 k33
  have b33 := F33.binds (ps := ["text", "index"]) fun _ _ _ _ _ _ us hl => match us, hl with | [_, _], _ => rfl
  have F34 := L2.fun_mk (st := s_move_told) l34 x34 k34
  have b34 := F34.binds (ps := ["places", "cycles"]) fun _ _ _ _ _ _ us hl => match us, hl with | [_, _], _ => rfl
  have F35 := L2.fun_mk (st := s_read_move) l35 x35 k35
  have b35 := F35.binds (ps := ["text", "places"]) fun _ _ _ _ _ _ us hl => match us, hl with | [_, _], _ => rfl
  have F36 := L2.fun_mk (st := s_read_group) l36 x36 k36
  have b36 := F36.binds (ps := ["text"]) fun _ _ _ _ _ _ us hl => match us, hl with | [_], _ => rfl
  have F37 := L2.fun_mk (st := s__law_read_right) l37 x37 k37
  have b37 := F37.binds (ps := ["_law_bag_here"]) fun _ _ _ _ _ _ us hl => match us, hl with | [_], _ => rfl
  have F38 := L2.fun_mk (st := s_law) l38 x38 k38
  have o_InvalidGroup := (⟨C_InvalidGroup, _, _, _, _, PySem.F.excBase_ValueError, ei_InvalidGroup, PySem.W.mg_of X G a_InvalidGroup, kp_InvalidGroup, sb_InvalidGroup, ty_InvalidGroup⟩ : OwnX K mg "InvalidGroup")
  have o_InvalidKinds := (⟨C_InvalidKinds, _, _, _, _, PySem.F.excBase_ValueError, ei_InvalidKinds, PySem.W.mg_of X G a_InvalidKinds, kp_InvalidKinds, sb_InvalidKinds, ty_InvalidKinds⟩ : OwnX K mg "InvalidKinds")
  have o_InvalidMove := (⟨C_InvalidMove, _, _, _, _, PySem.F.excBase_ValueError, ei_InvalidMove, PySem.W.mg_of X G a_InvalidMove, kp_InvalidMove, sb_InvalidMove, ty_InvalidMove⟩ : OwnX K mg "InvalidMove")
  have o_InvalidNumber := (⟨C_InvalidNumber, fI_InvalidNumber, cc_InvalidNumber, cda_InvalidNumber, qn_InvalidNumber, _, _, _, _, ⟨PySem.W.mg_of X G a_InvalidNumber, kp_InvalidNumber, ei_InvalidNumber, eo_InvalidNumber, sa_InvalidNumber, tk_InvalidNumber, hd_InvalidNumber, fi_InvalidNumber, ft_InvalidNumber, sb_InvalidNumber, sB_InvalidNumber, mo_InvalidNumber, ty_InvalidNumber, n_stat, ks_InvalidNumber, ⟨_, _, _, lc_InvalidNumber⟩, PySem.W.mg_none_of X G n_super, ⟨_, _, _, _, _, _, lv_InvalidNumber, v2_InvalidNumber, pf_InvalidNumber⟩, topsup, ⟨oc_InvalidNumber, od_InvalidNumber, kV_InvalidNumber, dc_InvalidNumber, pm_InvalidNumber, an_InvalidNumber, ct_InvalidNumber, sl_InvalidNumber, p1_InvalidNumber, p2_InvalidNumber, a0_InvalidNumber, a1_InvalidNumber, a2_InvalidNumber, a3_InvalidNumber, a4_InvalidNumber, a5_InvalidNumber, b0_InvalidNumber, b1_InvalidNumber, b2_InvalidNumber, b3_InvalidNumber, lf_InvalidNumber, cd_InvalidNumber, po_InvalidNumber⟩⟩, fld_given, PySem.W.kxs_IndexError, PySem.F.excBase_IndexError, PySem.F.store_IndexError⟩ : SupX l.prog K mg "InvalidNumber" "given")
  have o_InvalidRow := (⟨C_InvalidRow, _, _, _, _, PySem.F.excBase_ValueError, ei_InvalidRow, PySem.W.mg_of X G a_InvalidRow, kp_InvalidRow, sb_InvalidRow, ty_InvalidRow⟩ : OwnX K mg "InvalidRow")
  have o_ParseError := (⟨C_ParseError, fI_ParseError, cc_ParseError, cda_ParseError, qn_ParseError, _, _, _, _, ⟨PySem.W.mg_of X G a_ParseError, kp_ParseError, ei_ParseError, eo_ParseError, sa_ParseError, tk_ParseError, hd_ParseError, fi_ParseError, ft_ParseError, sb_ParseError, sB_ParseError, mo_ParseError, ty_ParseError, n_stat, ks_ParseError, ⟨_, _, _, lc_ParseError⟩, PySem.W.mg_none_of X G n_super, ⟨_, _, _, _, _, _, lv_ParseError, v2_ParseError, pf_ParseError⟩, topsup, ⟨oc_ParseError, od_ParseError, kV_ParseError, dc_ParseError, pm_ParseError, an_ParseError, ct_ParseError, sl_ParseError, p1_ParseError, p2_ParseError, a0_ParseError, a1_ParseError, a2_ParseError, a3_ParseError, a4_ParseError, a5_ParseError, b0_ParseError, b1_ParseError, b2_ParseError, b3_ParseError, lf_ParseError, cd_ParseError, po_ParseError⟩⟩, fld_index, PySem.W.kxs_ValueError, PySem.F.excBase_ValueError, PySem.F.store_ValueError⟩ : SupX l.prog K mg "ParseError" "index")
  have s_InvalidGroup_stop : NoStopC K mg "InvalidGroup" := ⟨C_InvalidGroup, PySem.W.mg_of X G a_InvalidGroup, st_InvalidGroup⟩
  have q_Group : NoneOf K mg "Group" := ⟨C_Group, PySem.W.mg_of X G a_Group, fun t ht => by simp only [kinds7, List.mem_cons, List.not_mem_nil, or_false] at ht; rcases ht with rfl | rfl | rfl | rfl | rfl | rfl | rfl; exact ki_Group_NoneType; exact ki_Group_bool; exact ki_Group_int; exact ki_Group_str; exact ki_Group_tuple; exact ki_Group_list; exact ki_Group_dict⟩
  have w__law_word := okW__law_word l0 x0 k0 (PySem.W.mg_of X G a0) b0 (PySem.W.mg_none_of X G n_repr) (PySem.W.mg_of X G a_InvalidGroup) (PySem.W.mg_of X G a_InvalidKinds) (PySem.W.mg_of X G a_InvalidMove) (PySem.W.mg_of X G a_InvalidNumber) (PySem.W.mg_of X G a_InvalidRow) (PySem.W.mg_of X G a_ParseError) (L2.xfB_ok xf_ParseError) fz_ParseError (L2.xfB_ok xf_InvalidNumber) fz_InvalidNumber (.cons (each_cons ⟨_, _, PySem.W.mg_of X G a_InvalidGroup, PySem.W.mg_of X G a_InvalidMove, ex_InvalidGroup_InvalidMove⟩ (each_cons ⟨_, _, PySem.W.mg_of X G a_InvalidGroup, PySem.W.mg_of X G a_InvalidGroup, ex_InvalidGroup_InvalidGroup⟩ (each_cons ⟨_, _, PySem.W.mg_of X G a_InvalidGroup, PySem.W.mg_of X G a_InvalidRow, ex_InvalidGroup_InvalidRow⟩ (each_cons ⟨_, _, PySem.W.mg_of X G a_InvalidGroup, PySem.W.mg_of X G a_InvalidKinds, ex_InvalidGroup_InvalidKinds⟩ (each_cons ⟨_, _, PySem.W.mg_of X G a_InvalidGroup, PySem.W.mg_of X G a_ParseError, ex_InvalidGroup_ParseError⟩ (each_cons ⟨_, _, PySem.W.mg_of X G a_InvalidGroup, PySem.W.mg_of X G a_InvalidNumber, ex_InvalidGroup_InvalidNumber⟩ each_nil)))))) (.cons (each_cons ⟨_, _, PySem.W.mg_of X G a_InvalidKinds, PySem.W.mg_of X G a_InvalidMove, ex_InvalidKinds_InvalidMove⟩ (each_cons ⟨_, _, PySem.W.mg_of X G a_InvalidKinds, PySem.W.mg_of X G a_InvalidGroup, ex_InvalidKinds_InvalidGroup⟩ (each_cons ⟨_, _, PySem.W.mg_of X G a_InvalidKinds, PySem.W.mg_of X G a_InvalidRow, ex_InvalidKinds_InvalidRow⟩ (each_cons ⟨_, _, PySem.W.mg_of X G a_InvalidKinds, PySem.W.mg_of X G a_InvalidKinds, ex_InvalidKinds_InvalidKinds⟩ (each_cons ⟨_, _, PySem.W.mg_of X G a_InvalidKinds, PySem.W.mg_of X G a_ParseError, ex_InvalidKinds_ParseError⟩ (each_cons ⟨_, _, PySem.W.mg_of X G a_InvalidKinds, PySem.W.mg_of X G a_InvalidNumber, ex_InvalidKinds_InvalidNumber⟩ each_nil)))))) (.cons (each_cons ⟨_, _, PySem.W.mg_of X G a_InvalidMove, PySem.W.mg_of X G a_InvalidMove, ex_InvalidMove_InvalidMove⟩ (each_cons ⟨_, _, PySem.W.mg_of X G a_InvalidMove, PySem.W.mg_of X G a_InvalidGroup, ex_InvalidMove_InvalidGroup⟩ (each_cons ⟨_, _, PySem.W.mg_of X G a_InvalidMove, PySem.W.mg_of X G a_InvalidRow, ex_InvalidMove_InvalidRow⟩ (each_cons ⟨_, _, PySem.W.mg_of X G a_InvalidMove, PySem.W.mg_of X G a_InvalidKinds, ex_InvalidMove_InvalidKinds⟩ (each_cons ⟨_, _, PySem.W.mg_of X G a_InvalidMove, PySem.W.mg_of X G a_ParseError, ex_InvalidMove_ParseError⟩ (each_cons ⟨_, _, PySem.W.mg_of X G a_InvalidMove, PySem.W.mg_of X G a_InvalidNumber, ex_InvalidMove_InvalidNumber⟩ each_nil)))))) (.cons (each_cons ⟨_, _, PySem.W.mg_of X G a_InvalidNumber, PySem.W.mg_of X G a_InvalidMove, ex_InvalidNumber_InvalidMove⟩ (each_cons ⟨_, _, PySem.W.mg_of X G a_InvalidNumber, PySem.W.mg_of X G a_InvalidGroup, ex_InvalidNumber_InvalidGroup⟩ (each_cons ⟨_, _, PySem.W.mg_of X G a_InvalidNumber, PySem.W.mg_of X G a_InvalidRow, ex_InvalidNumber_InvalidRow⟩ (each_cons ⟨_, _, PySem.W.mg_of X G a_InvalidNumber, PySem.W.mg_of X G a_InvalidKinds, ex_InvalidNumber_InvalidKinds⟩ (each_cons ⟨_, _, PySem.W.mg_of X G a_InvalidNumber, PySem.W.mg_of X G a_ParseError, ex_InvalidNumber_ParseError⟩ (each_cons ⟨_, _, PySem.W.mg_of X G a_InvalidNumber, PySem.W.mg_of X G a_InvalidNumber, ex_InvalidNumber_InvalidNumber⟩ each_nil)))))) (.cons (each_cons ⟨_, _, PySem.W.mg_of X G a_InvalidRow, PySem.W.mg_of X G a_InvalidMove, ex_InvalidRow_InvalidMove⟩ (each_cons ⟨_, _, PySem.W.mg_of X G a_InvalidRow, PySem.W.mg_of X G a_InvalidGroup, ex_InvalidRow_InvalidGroup⟩ (each_cons ⟨_, _, PySem.W.mg_of X G a_InvalidRow, PySem.W.mg_of X G a_InvalidRow, ex_InvalidRow_InvalidRow⟩ (each_cons ⟨_, _, PySem.W.mg_of X G a_InvalidRow, PySem.W.mg_of X G a_InvalidKinds, ex_InvalidRow_InvalidKinds⟩ (each_cons ⟨_, _, PySem.W.mg_of X G a_InvalidRow, PySem.W.mg_of X G a_ParseError, ex_InvalidRow_ParseError⟩ (each_cons ⟨_, _, PySem.W.mg_of X G a_InvalidRow, PySem.W.mg_of X G a_InvalidNumber, ex_InvalidRow_InvalidNumber⟩ each_nil)))))) (.cons (each_cons ⟨_, _, PySem.W.mg_of X G a_ParseError, PySem.W.mg_of X G a_InvalidMove, ex_ParseError_InvalidMove⟩ (each_cons ⟨_, _, PySem.W.mg_of X G a_ParseError, PySem.W.mg_of X G a_InvalidGroup, ex_ParseError_InvalidGroup⟩ (each_cons ⟨_, _, PySem.W.mg_of X G a_ParseError, PySem.W.mg_of X G a_InvalidRow, ex_ParseError_InvalidRow⟩ (each_cons ⟨_, _, PySem.W.mg_of X G a_ParseError, PySem.W.mg_of X G a_InvalidKinds, ex_ParseError_InvalidKinds⟩ (each_cons ⟨_, _, PySem.W.mg_of X G a_ParseError, PySem.W.mg_of X G a_ParseError, ex_ParseError_ParseError⟩ (each_cons ⟨_, _, PySem.W.mg_of X G a_ParseError, PySem.W.mg_of X G a_InvalidNumber, ex_ParseError_InvalidNumber⟩ each_nil)))))) .nil))))))
  have tb31 := hTb "_law_written_right" (by decide) _ _ t31
  have tb37 := hTb "_law_read_right" (by decide) _ _ t37
  have tb38 := hTb "law" (by decide) _ _ t38
  refine ⟨PySem.W.fnOf "law" "law" (L2.defArgs s_law) (L2.defBody s_law) (L2.defScope s_law) .none kV38 dc38 pm38 an38 (.ref cc38) ct38, [(cc31, T__law_written_right), (cc37, T__law_read_right), (cc38, T_law)], each_cons tb31.2 (each_cons tb37.2 (each_cons tb38.2 (each_nil))), each_cons u31 (each_cons u37 (each_cons u38 (each_nil))), each_cons tb31.1 (each_cons tb37.1 (each_cons tb38.1 (each_nil))), fun s v => .of_eq rfl, rfl, fun base _ _ hB => ?_⟩
  have H_require_text := ok_require_text (P := l.prog) (w := w) (base := base) F1 (PySem.W.mg_of X G a1) b1 ⟨_, PySem.W.mg_of X G c_MOST_SIGNS⟩ (PySem.W.mg_none_of X G n_isinstance) (PySem.W.mg_none_of X G n_len) (PySem.W.mg_none_of X G n_str) o_ParseError
  have H_plain_at := ok_plain_at (P := l.prog) (w := w) (base := base) F2 (PySem.W.mg_of X G a2) b2 ⟨_, PySem.W.mg_of X G c_FIGURES⟩ ⟨_, PySem.W.mg_of X G c_MOST_FIGURES⟩ (PySem.W.mg_none_of X G n_int) (PySem.W.mg_none_of X G n_len) (PySem.W.mg_none_of X G n_min) o_ParseError
  have H_signed_at := ok_signed_at (P := l.prog) (w := w) (base := base) F3 (PySem.W.mg_of X G a3) b3 H_plain_at o_ParseError
  have H_require_end := ok_require_end (P := l.prog) (w := w) (base := base) F4 (PySem.W.mg_of X G a4) b4 (PySem.W.mg_none_of X G n_len) o_ParseError
  have H_read_row := ok_read_row (P := l.prog) (w := w) (base := base) F5 (PySem.W.mg_of X G a5) b5 H_require_end H_require_text H_signed_at ⟨_, PySem.W.mg_of X G c_MOST_MEMBERS⟩ (PySem.W.mg_none_of X G n_len) (PySem.W.mg_none_of X G n_tuple) o_InvalidRow
  have H_is_plain := ok_is_plain (P := l.prog) (w := w) (base := base) F6 (PySem.W.mg_of X G a6) b6 (PySem.W.mg_none_of X G n_bool) (PySem.W.mg_none_of X G n_int) (PySem.W.mg_none_of X G n_isinstance)
  have H_is_within := ok_is_within (P := l.prog) (w := w) (base := base) F7 (PySem.W.mg_of X G a7) b7 H_is_plain
  have H_require_within := ok_require_within (P := l.prog) (w := w) (base := base) F8 (PySem.W.mg_of X G a8) b8 H_is_within o_InvalidNumber
  have H_is_integer := ok_is_integer (P := l.prog) (w := w) (base := base) F9 (PySem.W.mg_of X G a9) b9 H_is_plain ⟨_, PySem.W.mg_of X G c_FAR⟩
  have H_are_integers := ok_are_integers (P := l.prog) (w := w) (base := base) F10 (PySem.W.mg_of X G a10) b10 H_is_integer ⟨_, PySem.W.mg_of X G c_MOST_MEMBERS⟩ (PySem.W.mg_none_of X G n_all) (PySem.W.mg_none_of X G n_isinstance) (PySem.W.mg_none_of X G n_len) (PySem.W.mg_none_of X G n_tuple)
  have H_require_sign := ok_require_sign (P := l.prog) (w := w) (base := base) F11 (PySem.W.mg_of X G a11) b11 o_ParseError
  have H_term_at := ok_term_at (P := l.prog) (w := w) (base := base) F12 (PySem.W.mg_of X G a12) b12 H_plain_at H_require_sign
  have H_terms_at := ok_terms_at (P := l.prog) (w := w) (base := base) F13 (PySem.W.mg_of X G a13) b13 H_require_sign H_term_at (PySem.W.mg_none_of X G n_len) o_ParseError
  have H_read_kinds := ok_read_kinds (P := l.prog) (w := w) (base := base) F14 (PySem.W.mg_of X G a14) b14 H_are_integers H_require_text H_require_within H_terms_at ⟨_, PySem.W.mg_of X G c_MOST_MEMBERS⟩ ⟨_, PySem.W.mg_of X G c_NOTHING⟩ (PySem.W.mg_none_of X G n_any) (PySem.W.mg_none_of X G n_tuple) o_InvalidKinds
  have H_row_text := ok_row_text (P := l.prog) (w := w) (base := base) F15 (PySem.W.mg_of X G a15) b15 (PySem.W.mg_none_of X G n_str)
  have H_write_row := ok_write_row (P := l.prog) (w := w) (base := base) F16 (PySem.W.mg_of X G a16) b16 H_are_integers H_row_text o_InvalidRow
  have H_term_text := ok_term_text (P := l.prog) (w := w) (base := base) F17 (PySem.W.mg_of X G a17) b17
  have H_kinds_text := ok_kinds_text (P := l.prog) (w := w) (base := base) F18 (PySem.W.mg_of X G a18) b18 H_term_text ⟨_, PySem.W.mg_of X G c_NOTHING⟩ (PySem.W.mg_none_of X G n_abs) (PySem.W.mg_none_of X G n_enumerate)
  have H_write_kinds := ok_write_kinds (P := l.prog) (w := w) (base := base) F19 (PySem.W.mg_of X G a19) b19 H_are_integers H_kinds_text o_InvalidKinds
  have H__law_bag := ok__law_bag (P := l.prog) (w := w) (base := base) F20 (PySem.W.mg_of X G a20) b20 (PySem.W.mg_none_of X G n_abs) (PySem.W.mg_none_of X G n_int) (PySem.W.mg_none_of X G n_len) (PySem.W.mg_none_of X G n_max) (PySem.W.mg_none_of X G n_sum)
  have H_is_move_of := ok_is_move_of (P := l.prog) (w := w) (base := base) F21 (PySem.W.mg_of X G a21) b21 H_is_plain (PySem.W.mg_none_of X G n_all) (PySem.W.mg_none_of X G n_isinstance) (PySem.W.mg_none_of X G n_len) (PySem.W.mg_none_of X G n_list) (PySem.W.mg_none_of X G n_range) (PySem.W.mg_none_of X G n_sorted) (PySem.W.mg_none_of X G n_tuple)
  have H_is_any_move := ok_is_any_move (P := l.prog) (w := w) (base := base) F22 (PySem.W.mg_of X G a22) b22 H_is_move_of ⟨_, PySem.W.mg_of X G c_MAX_PLACES⟩ (PySem.W.mg_none_of X G n_isinstance) (PySem.W.mg_none_of X G n_len) (PySem.W.mg_none_of X G n_tuple)
  have H_cycles_in := ok_cycles_in (P := l.prog) (w := w) (base := base) F23 (PySem.W.mg_of X G a23) b23 (PySem.W.mg_none_of X G n_len) (PySem.W.mg_none_of X G n_range) (PySem.W.mg_none_of X G n_tuple)
  have H_move_text := ok_move_text (P := l.prog) (w := w) (base := base) F24 (PySem.W.mg_of X G a24) b24 H_cycles_in ⟨_, PySem.W.mg_of X G c_UNIT⟩ (PySem.W.mg_none_of X G n_len) (PySem.W.mg_none_of X G n_str)
  have H_write_move := ok_write_move (P := l.prog) (w := w) (base := base) F25 (PySem.W.mg_of X G a25) b25 H_is_any_move H_move_text o_InvalidMove
  have H_require_group := ok_require_group (P := l.prog) (w := w) (base := base) F26 (PySem.W.mg_of X G a26) b26 (PySem.W.mg_none_of X G n_isinstance) o_InvalidGroup q_Group
  have H_write_group := ok_write_group (P := l.prog) (w := w) (base := base) F27 (PySem.W.mg_of X G a27) b27 H_require_group
  have V_table_lines := ok_table_lines (P := l.prog) (w := w) (base := base) l28 x28 k28 (PySem.W.mg_of X G a28) b28 H_require_group
  have H__law_grab := ok__law_grab (P := l.prog) (w := w) (base := base) F29 (PySem.W.mg_of X G a29) b29 (PySem.W.mg_none_of X G n_int)
  have H__law_one_of := ok__law_one_of (P := l.prog) (w := w) (base := base) F30 (PySem.W.mg_of X G a30) b30 H__law_grab (PySem.W.mg_none_of X G n_len)
  have H__law_written_right := ok__law_written_right (P := l.prog) (w := w) (base := base) l31 x31 k31 (PySem.W.mg_of X G a31) b31 H__law_one_of H_write_group H_write_kinds H_write_move H_write_row (PySem.W.mg_none_of X G n_list) (PySem.W.mg_none_of X G n_range) (PySem.W.mg_none_of X G n_tuple) w__law_word V_table_lines s_InvalidGroup_stop (hB (cc31, T__law_written_right) (by simp))
  have H_cycle_at := ok_cycle_at (P := l.prog) (w := w) (base := base) F32 (PySem.W.mg_of X G a32) b32 H_plain_at H_require_sign (PySem.W.mg_none_of X G n_len) (PySem.W.mg_none_of X G n_tuple)
  have H_cycles_at := ok_cycles_at (P := l.prog) (w := w) (base := base) F33 (PySem.W.mg_of X G a33) b33 H_cycle_at ⟨_, PySem.W.mg_of X G c_UNIT⟩
  have H_move_told := ok_move_told (P := l.prog) (w := w) (base := base) F34 (PySem.W.mg_of X G a34) b34 (PySem.W.mg_none_of X G n_enumerate) (PySem.W.mg_none_of X G n_len) (PySem.W.mg_none_of X G n_list) (PySem.W.mg_none_of X G n_max) (PySem.W.mg_none_of X G n_range) (PySem.W.mg_none_of X G n_tuple) o_InvalidMove
  have H_read_move := ok_read_move (P := l.prog) (w := w) (base := base) F35 (PySem.W.mg_of X G a35) b35 H_cycles_at H_move_told H_require_end H_require_text H_require_within ⟨_, PySem.W.mg_of X G c_MOST_PLACES⟩
  have H_read_group := ok_read_group (P := l.prog) (w := w) (base := base) F36 (PySem.W.mg_of X G a36) b36 H_require_text
  have H__law_read_right := ok__law_read_right (P := l.prog) (w := w) (base := base) l37 x37 k37 (PySem.W.mg_of X G a37) b37 H__law_one_of H_read_group H_read_kinds H_read_move H_read_row (PySem.W.mg_none_of X G n_repr) w__law_word (hB (cc37, T__law_read_right) (by simp))
  exact (ok_law (P := l.prog) (w := w) (base := base) l38 x38 H__law_bag H__law_read_right H__law_written_right H_read_kinds H_read_row H_write_kinds H_write_row (PySem.W.mg_none_of X G n_len) (PySem.W.mg_none_of X G n_max) (PySem.W.mg_none_of X G n_min) (PySem.W.mg_none_of X G n_range) w__law_word (hB (cc38, T_law) (by simp))).imp (law_impT (qs := [((("_law_written_right" : Str) ++ (".<locals>." : Str)) ++ ("<lambda>" : Str)), ((("_law_read_right" : Str) ++ (".<locals>." : Str)) ++ ("<lambda>" : Str)), ((("law" : Str) ++ (".<locals>." : Str)) ++ ("<lambda>" : Str))]) rfl nd law_true)
end Dn
open PySem PySem.W PyProof.Rows
set_option maxHeartbeats 0 in
theorem PySem.Challenge.cw_movemarks_k87_errors_of_texts_holds : PySem.Challenge.rw_movemarks_k87_errors_of_texts.Holds := by
  w_on; o_law; k_head; (case hw => w_witness2)
  k_fill
  refine Dn.walk_quiet (l := PySem.Challenge.rw_movemarks_k87_errors_of_texts) (n := 63) (k := 9) (x := "_law_script") (xs := ["_law_written_right", "_law_read_right", "law"]) rfl (by decide) rfl ⟨by decide, by decide, by decide⟩ (by decide +kernel) (fun w h Y => by first | exact PySem.W.kIn_of Y | exact PySem.W.km_in_of Y) ?F
  case F =>
    intro w mg fa h _ KX G hmg hTb
    refine' Dn.all_mk rfl KX G hmg hTb ?a0 ?l0 ?x0 ?k0 ?a1 ?l1 ?x1 ?k1 ?a2 ?l2 ?x2 ?k2 ?a3 ?l3 ?x3 ?k3 ?a4 ?l4 ?x4 ?k4 ?a5 ?l5 ?x5 ?k5 ?a6 ?l6 ?x6 ?k6 ?a7 ?l7 ?x7 ?k7 ?a8 ?l8 ?x8 ?k8 ?a9 ?l9 ?x9 ?k9 ?a10 ?l10 ?x10 ?k10 ?a11 ?l11 ?x11 ?k11 ?a12 ?l12 ?x12 ?k12 ?a13 ?l13 ?x13 ?k13 ?a14 ?l14 ?x14 ?k14 ?a15 ?l15 ?x15 ?k15 ?a16 ?l16 ?x16 ?k16 ?a17 ?l17 ?x17 ?k17 ?a18 ?l18 ?x18 ?k18 ?a19 ?l19 ?x19 ?k19 ?a20 ?l20 ?x20 ?k20 ?a21 ?l21 ?x21 ?k21 ?a22 ?l22 ?x22 ?k22 ?a23 ?l23 ?x23 ?k23 ?a24 ?l24 ?x24 ?k24 ?a25 ?l25 ?x25 ?k25 ?a26 ?l26 ?x26 ?k26 ?a27 ?l27 ?x27 ?k27 ?a28 ?l28 ?x28 ?k28 ?a29 ?l29 ?x29 ?k29 ?a30 ?l30 ?x30 ?k30 ?a31 ?l31 ?x31 ?k31 ?t31 ?u31 ?a32 ?l32 ?x32 ?k32 ?a33 ?l33 ?x33 ?k33 ?a34 ?l34 ?x34 ?k34 ?a35 ?l35 ?x35 ?k35 ?a36 ?l36 ?x36 ?k36 ?a37 ?l37 ?x37 ?k37 ?t37 ?u37 ?a38 ?l38 ?x38 ?k38 ?t38 ?u38 ?c_FAR ?c_FIGURES ?c_MAX_PLACES ?c_MOST_FIGURES ?c_MOST_MEMBERS ?c_MOST_PLACES ?c_MOST_SIGNS ?c_NOTHING ?c_UNIT ?n_abs ?n_all ?n_any ?n_bool ?n_enumerate ?n_int ?n_isinstance ?n_len ?n_list ?n_max ?n_min ?n_range ?n_repr ?n_sorted ?n_str ?n_sum ?n_tuple ?a_Group ?a_InvalidGroup ?a_InvalidKinds ?a_InvalidMove ?a_InvalidNumber ?a_InvalidRow ?a_ParseError ?ki_Group_NoneType ?ki_Group_bool ?ki_Group_int ?ki_Group_str ?ki_Group_tuple ?ki_Group_list ?ki_Group_dict ?st_InvalidGroup ?kp_InvalidGroup ?sb_InvalidGroup ?ty_InvalidGroup ?ei_InvalidGroup ?kp_InvalidKinds ?sb_InvalidKinds ?ty_InvalidKinds ?ei_InvalidKinds ?kp_InvalidMove ?sb_InvalidMove ?ty_InvalidMove ?ei_InvalidMove ?kp_InvalidNumber ?sb_InvalidNumber ?ty_InvalidNumber ?ei_InvalidNumber ?eo_InvalidNumber ?sa_InvalidNumber ?tk_InvalidNumber ?hd_InvalidNumber ?fi_InvalidNumber ?ft_InvalidNumber ?sB_InvalidNumber ?mo_InvalidNumber ?ks_InvalidNumber ?lf_InvalidNumber ?cd_InvalidNumber ?lc_InvalidNumber ?lv_InvalidNumber ?v2_InvalidNumber ?pf_InvalidNumber ?po_InvalidNumber ?kp_InvalidRow ?sb_InvalidRow ?ty_InvalidRow ?ei_InvalidRow ?kp_ParseError ?sb_ParseError ?ty_ParseError ?ei_ParseError ?eo_ParseError ?sa_ParseError ?tk_ParseError ?hd_ParseError ?fi_ParseError ?ft_ParseError ?sB_ParseError ?mo_ParseError ?ks_ParseError ?lf_ParseError ?cd_ParseError ?lc_ParseError ?lv_ParseError ?v2_ParseError ?pf_ParseError ?po_ParseError ?n_stat ?n_super ?topsup ?xf_ParseError ?fz_ParseError ?xf_InvalidNumber ?fz_InvalidNumber ?ex_InvalidGroup_InvalidGroup ?ex_InvalidGroup_InvalidKinds ?ex_InvalidGroup_InvalidMove ?ex_InvalidGroup_InvalidNumber ?ex_InvalidGroup_InvalidRow ?ex_InvalidGroup_ParseError ?ex_InvalidKinds_InvalidGroup ?ex_InvalidKinds_InvalidKinds ?ex_InvalidKinds_InvalidMove ?ex_InvalidKinds_InvalidNumber ?ex_InvalidKinds_InvalidRow ?ex_InvalidKinds_ParseError ?ex_InvalidMove_InvalidGroup ?ex_InvalidMove_InvalidKinds ?ex_InvalidMove_InvalidMove ?ex_InvalidMove_InvalidNumber ?ex_InvalidMove_InvalidRow ?ex_InvalidMove_ParseError ?ex_InvalidNumber_InvalidGroup ?ex_InvalidNumber_InvalidKinds ?ex_InvalidNumber_InvalidMove ?ex_InvalidNumber_InvalidNumber ?ex_InvalidNumber_InvalidRow ?ex_InvalidNumber_ParseError ?ex_InvalidRow_InvalidGroup ?ex_InvalidRow_InvalidKinds ?ex_InvalidRow_InvalidMove ?ex_InvalidRow_InvalidNumber ?ex_InvalidRow_InvalidRow ?ex_InvalidRow_ParseError ?ex_ParseError_InvalidGroup ?ex_ParseError_InvalidKinds ?ex_ParseError_InvalidMove ?ex_ParseError_InvalidNumber ?ex_ParseError_InvalidRow ?ex_ParseError_ParseError ?nd
    (case a0 => k_is); (case l0 => k_is); (case x0 => k_is); (case k0 => k_is); (case a1 => k_is); (case l1 => k_is); (case x1 => k_is); (case k1 => k_is); (case a2 => k_is); (case l2 => k_is); (case x2 => k_is); (case k2 => k_is); (case a3 => k_is); (case l3 => k_is); (case x3 => k_is); (case k3 => k_is); (case a4 => k_is); (case l4 => k_is); (case x4 => k_is); (case k4 => k_is); (case a5 => k_is); (case l5 => k_is); (case x5 => k_is); (case k5 => k_is); (case a6 => k_is); (case l6 => k_is); (case x6 => k_is); (case k6 => k_is); (case a7 => k_is); (case l7 => k_is); (case x7 => k_is); (case k7 => k_is); (case a8 => k_is); (case l8 => k_is); (case x8 => k_is); (case k8 => k_is); (case a9 => k_is); (case l9 => k_is); (case x9 => k_is); (case k9 => k_is); (case a10 => k_is); (case l10 => k_is); (case x10 => k_is); (case k10 => k_is); (case a11 => k_is); (case l11 => k_is); (case x11 => k_is); (case k11 => k_is); (case a12 => k_is); (case l12 => k_is); (case x12 => k_is); (case k12 => k_is); (case a13 => k_is); (case l13 => k_is); (case x13 => k_is); (case k13 => k_is); (case a14 => k_is); (case l14 => k_is); (case x14 => k_is); (case k14 => k_is); (case a15 => k_is); (case l15 => k_is); (case x15 => k_is); (case k15 => k_is); (case a16 => k_is); (case l16 => k_is); (case x16 => k_is); (case k16 => k_is); (case a17 => k_is); (case l17 => k_is); (case x17 => k_is); (case k17 => k_is); (case a18 => k_is); (case l18 => k_is); (case x18 => k_is); (case k18 => k_is); (case a19 => k_is); (case l19 => k_is); (case x19 => k_is); (case k19 => k_is); (case a20 => k_is); (case l20 => k_is); (case x20 => k_is); (case k20 => k_is); (case a21 => k_is); (case l21 => k_is); (case x21 => k_is); (case k21 => k_is); (case a22 => k_is); (case l22 => k_is); (case x22 => k_is); (case k22 => k_is); (case a23 => k_is); (case l23 => k_is); (case x23 => k_is); (case k23 => k_is); (case a24 => k_is); (case l24 => k_is); (case x24 => k_is); (case k24 => k_is); (case a25 => k_is); (case l25 => k_is); (case x25 => k_is); (case k25 => k_is); (case a26 => k_is); (case l26 => k_is); (case x26 => k_is); (case k26 => k_is); (case a27 => k_is); (case l27 => k_is); (case x27 => k_is); (case k27 => k_is); (case a28 => k_is); (case l28 => k_is); (case x28 => k_is); (case k28 => k_is); (case a29 => k_is); (case l29 => k_is); (case x29 => k_is); (case k29 => k_is); (case a30 => k_is); (case l30 => k_is); (case x30 => k_is); (case k30 => k_is); (case a31 => k_is); (case l31 => k_is); (case x31 => k_is); (case k31 => k_is); (case t31 => exact rfl); (case u31 => exact rfl); (case a32 => k_is); (case l32 => k_is); (case x32 => k_is); (case k32 => k_is); (case a33 => k_is); (case l33 => k_is); (case x33 => k_is); (case k33 => k_is); (case a34 => k_is); (case l34 => k_is); (case x34 => k_is); (case k34 => k_is); (case a35 => k_is); (case l35 => k_is); (case x35 => k_is); (case k35 => k_is); (case a36 => k_is); (case l36 => k_is); (case x36 => k_is); (case k36 => k_is); (case a37 => k_is); (case l37 => k_is); (case x37 => k_is); (case k37 => k_is); (case t37 => exact rfl); (case u37 => exact rfl); (case a38 => k_is); (case l38 => k_is); (case x38 => k_is); (case k38 => k_is); (case t38 => exact rfl); (case u38 => exact rfl); (case c_FAR => k_is); (case c_FIGURES => k_is); (case c_MAX_PLACES => k_is); (case c_MOST_FIGURES => k_is); (case c_MOST_MEMBERS => k_is); (case c_MOST_PLACES => k_is); (case c_MOST_SIGNS => k_is); (case c_NOTHING => k_is); (case c_UNIT => k_is); (case n_abs => k_is); (case n_all => k_is); (case n_any => k_is); (case n_bool => k_is); (case n_enumerate => k_is); (case n_int => k_is); (case n_isinstance => k_is); (case n_len => k_is); (case n_list => k_is); (case n_max => k_is); (case n_min => k_is); (case n_range => k_is); (case n_repr => k_is); (case n_sorted => k_is); (case n_str => k_is); (case n_sum => k_is); (case n_tuple => k_is); (case a_Group => k_is); (case a_InvalidGroup => k_is); (case a_InvalidKinds => k_is); (case a_InvalidMove => k_is); (case a_InvalidNumber => k_is); (case a_InvalidRow => k_is); (case a_ParseError => k_is); (case ki_Group_NoneType => exact rfl); (case ki_Group_bool => exact rfl); (case ki_Group_int => exact rfl); (case ki_Group_str => exact rfl); (case ki_Group_tuple => exact rfl); (case ki_Group_list => exact rfl); (case ki_Group_dict => exact rfl); (case st_InvalidGroup => k_is); (case kp_InvalidGroup => k_is); (case sb_InvalidGroup => k_is); (case ty_InvalidGroup => k_is); (case ei_InvalidGroup => k_exc); (case kp_InvalidKinds => k_is); (case sb_InvalidKinds => k_is); (case ty_InvalidKinds => k_is); (case ei_InvalidKinds => k_exc); (case kp_InvalidMove => k_is); (case sb_InvalidMove => k_is); (case ty_InvalidMove => k_is); (case ei_InvalidMove => k_exc); (case kp_InvalidNumber => k_is); (case sb_InvalidNumber => k_is); (case ty_InvalidNumber => k_is); (case ei_InvalidNumber => kx_is); (case eo_InvalidNumber => kx_is); (case sa_InvalidNumber => k_is); (case tk_InvalidNumber => k_is); (case hd_InvalidNumber => k_is); (case fi_InvalidNumber => k_is); (case ft_InvalidNumber => k_is); (case sB_InvalidNumber => k_is); (case mo_InvalidNumber => k_is); (case ks_InvalidNumber => exact rfl); (case lf_InvalidNumber => k_is); (case cd_InvalidNumber => k_is); (case lc_InvalidNumber => k_is); (case lv_InvalidNumber => k_is); (case v2_InvalidNumber => exact rfl); (case pf_InvalidNumber => exact rfl); (case po_InvalidNumber => exact rfl); (case kp_InvalidRow => k_is); (case sb_InvalidRow => k_is); (case ty_InvalidRow => k_is); (case ei_InvalidRow => k_exc); (case kp_ParseError => k_is); (case sb_ParseError => k_is); (case ty_ParseError => k_is); (case ei_ParseError => kx_is); (case eo_ParseError => kx_is); (case sa_ParseError => k_is); (case tk_ParseError => k_is); (case hd_ParseError => k_is); (case fi_ParseError => k_is); (case ft_ParseError => k_is); (case sB_ParseError => k_is); (case mo_ParseError => k_is); (case ks_ParseError => exact rfl); (case lf_ParseError => k_is); (case cd_ParseError => k_is); (case lc_ParseError => k_is); (case lv_ParseError => k_is); (case v2_ParseError => exact rfl); (case pf_ParseError => exact rfl); (case po_ParseError => exact rfl); (case n_stat => k_is); (case n_super => k_is); (case topsup => exact rfl); (case xf_ParseError => exact rfl); (case fz_ParseError => k_is); (case xf_InvalidNumber => exact rfl); (case fz_InvalidNumber => k_is); (case ex_InvalidGroup_InvalidGroup => exact rfl); (case ex_InvalidGroup_InvalidKinds => exact rfl); (case ex_InvalidGroup_InvalidMove => exact rfl); (case ex_InvalidGroup_InvalidNumber => exact rfl); (case ex_InvalidGroup_InvalidRow => exact rfl); (case ex_InvalidGroup_ParseError => exact rfl); (case ex_InvalidKinds_InvalidGroup => exact rfl); (case ex_InvalidKinds_InvalidKinds => exact rfl); (case ex_InvalidKinds_InvalidMove => exact rfl); (case ex_InvalidKinds_InvalidNumber => exact rfl); (case ex_InvalidKinds_InvalidRow => exact rfl); (case ex_InvalidKinds_ParseError => exact rfl); (case ex_InvalidMove_InvalidGroup => exact rfl); (case ex_InvalidMove_InvalidKinds => exact rfl); (case ex_InvalidMove_InvalidMove => exact rfl); (case ex_InvalidMove_InvalidNumber => exact rfl); (case ex_InvalidMove_InvalidRow => exact rfl); (case ex_InvalidMove_ParseError => exact rfl); (case ex_InvalidNumber_InvalidGroup => exact rfl); (case ex_InvalidNumber_InvalidKinds => exact rfl); (case ex_InvalidNumber_InvalidMove => exact rfl); (case ex_InvalidNumber_InvalidNumber => exact rfl); (case ex_InvalidNumber_InvalidRow => exact rfl); (case ex_InvalidNumber_ParseError => exact rfl); (case ex_InvalidRow_InvalidGroup => exact rfl); (case ex_InvalidRow_InvalidKinds => exact rfl); (case ex_InvalidRow_InvalidMove => exact rfl); (case ex_InvalidRow_InvalidNumber => exact rfl); (case ex_InvalidRow_InvalidRow => exact rfl); (case ex_InvalidRow_ParseError => exact rfl); (case ex_ParseError_InvalidGroup => exact rfl); (case ex_ParseError_InvalidKinds => exact rfl); (case ex_ParseError_InvalidMove => exact rfl); (case ex_ParseError_InvalidNumber => exact rfl); (case ex_ParseError_InvalidRow => exact rfl); (case ex_ParseError_ParseError => exact rfl); (case nd => decide)

