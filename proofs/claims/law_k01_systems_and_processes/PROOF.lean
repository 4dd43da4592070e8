import PyProof.Rows.All
import HandS.ForMost
import HandS.ForExc
import HandS.Flow
import HandS.IsInst
import HandS.Defaults
import HandS.Lambda
import PyProof.NeKinds
import HandS.CallSlots
import HandS.MakeKwOnly
import HandS.Zip
import HandS.DictComp
import HandS.SortInts
import HandS.TupAny
import HandS.More
import HandS.WordsDict
import HandS.Conv
import HandS.SetKeys
import HandS.DictTup
import PyProof.DictUpdate
import HandS.ExcInit
import HandS.ExcOwn
import HandS.ExcIs
import HandS.ExcField
import HandS.TryMany
import PyProof.DictMoreH
import HandS.WordsExc
import HandS.EndTab
import KE.KNestM
import Wide.All
import OpenK.AllK
import Wide.FinOn
import PySem.Challenge.RW_pageclass_k01_systems_and_processes
set_option Elab.async false
set_option linter.all false
set_option maxRecDepth 100000
set_option maxHeartbeats 2000000
namespace MP
open PySem PySem.Spec L2

/-- pure values: tuples (and the script's list, which is only read) are values; lists, dicts, instances stand in the store -/
inductive PV where
  | non | bl (b : Bool) | int (i : Int) | str (x : Str) | tup (xs : List PV) | ktp (xs : List PV) | rls (xs : List PV) | ref (n : Nat) | ty (n : String)
  deriving Inhabited
mutual
def PV.eqb : PV → PV → Bool
  | .non, .non => true
  | .bl a, .bl b => a == b
  | .int a, .int b => a == b
  | .str a, .str b => decide (a = b)
  | .tup a, .tup b => PV.eqbs a b
  | .ktp a, .ktp b => PV.eqbs a b
  | .rls a, .rls b => PV.eqbs a b
  | .ref a, .ref b => a == b
  | .ty a, .ty b => a == b
  | _, _ => false
def PV.eqbs : List PV → List PV → Bool
  | [], [] => true
  | x :: xs, y :: ys => PV.eqb x y && PV.eqbs xs ys
  | _, _ => false
end
mutual
theorem PV.of_eqb : ∀ {x y : PV}, PV.eqb x y = true → x = y
  | .non, y, h => by cases y <;> first | rfl | simp [PV.eqb] at h
  | .bl a, y, h => by cases y <;> simp_all [PV.eqb]
  | .int a, y, h => by cases y <;> simp_all [PV.eqb]
  | .str a, y, h => by cases y <;> simp_all [PV.eqb]
  | .tup a, y, h => by
    cases y with
    | tup b => rw [PV.eqb] at h; rw [PV.of_eqbs h]
    | _ => simp [PV.eqb] at h
  | .ktp a, y, h => by
    cases y with
    | ktp b => rw [PV.eqb] at h; rw [PV.of_eqbs h]
    | _ => simp [PV.eqb] at h
  | .rls a, y, h => by
    cases y with
    | rls b => rw [PV.eqb] at h; rw [PV.of_eqbs h]
    | _ => simp [PV.eqb] at h
  | .ref a, y, h => by cases y <;> simp_all [PV.eqb]
  | .ty a, y, h => by cases y <;> simp_all [PV.eqb]
theorem PV.of_eqbs : ∀ {x y : List PV}, PV.eqbs x y = true → x = y
  | [], y, h => by cases y <;> first | rfl | simp [PV.eqbs] at h
  | x :: xs, y, h => by
    cases y with
    | nil => simp [PV.eqbs] at h
    | cons y ys =>
      rw [PV.eqbs, Bool.and_eq_true] at h
      rw [PV.of_eqb h.1, PV.of_eqbs h.2]
end
mutual
theorem PV.eqb_refl : ∀ x : PV, PV.eqb x x = true
  | .non => rfl
  | .bl a => by simp [PV.eqb]
  | .int a => by simp [PV.eqb]
  | .str a => by simp [PV.eqb]
  | .tup a => by rw [PV.eqb]; exact PV.eqbs_refl a
  | .ktp a => by rw [PV.eqb]; exact PV.eqbs_refl a
  | .rls a => by rw [PV.eqb]; exact PV.eqbs_refl a
  | .ref a => by simp [PV.eqb]
  | .ty a => by simp [PV.eqb]
theorem PV.eqbs_refl : ∀ x : List PV, PV.eqbs x x = true
  | [] => rfl
  | x :: xs => by rw [PV.eqbs, PV.eqb_refl x, PV.eqbs_refl xs]; rfl
end
instance : DecidableEq PV := fun x y => if h : PV.eqb x y = true then isTrue (PV.of_eqb h) else isFalse fun e => h (by rw [e]; exact PV.eqb_refl y)
/-- what stands at an id -/
inductive PO where
  | lst (xs : List PV)
  | dct (kvs : List (PV × PV)) (lk : Bool)
  | ins (c : Nat) (fs : List (Str × PV))
  deriving Inhabited
structure Sto where
  objs : Array PO
  deriving Inhabited
def Sto.get (s : Sto) (n : Nat) : Option PO := s.objs[n]?
def Sto.set (s : Sto) (n : Nat) (o : PO) : Sto := ⟨s.objs.setIfInBounds n o⟩
def Sto.nx (s : Sto) : Nat := s.objs.size
def Sto.add (s : Sto) (o : PO) : Sto := ⟨s.objs.push o⟩
theorem Sto.get_set (s : Sto) (n m : Nat) (o : PO) : (s.set n o).get m = if m = n then (s.get n).map (fun _ => o) else s.get m := by
  unfold Sto.get Sto.set
  simp only [Array.getElem?_setIfInBounds]
  by_cases h : n = m
  · subst h
    simp only [if_pos]
    by_cases hs : n < s.objs.size
    · simp [hs]
    · simp [hs]
  · rw [if_neg h, if_neg (fun e => h e.symm)]
theorem Sto.get_add (s : Sto) (m : Nat) (o : PO) : (s.add o).get m = if m = s.nx then some o else s.get m := by
  unfold Sto.get Sto.add Sto.nx
  exact Array.getElem?_push
theorem Sto.nx_set (s : Sto) (n : Nat) (o : PO) : (s.set n o).nx = s.nx := by simp [Sto.nx, Sto.set]
theorem Sto.nx_add (s : Sto) (o : PO) : (s.add o).nx = s.nx + 1 := by simp [Sto.nx, Sto.add]
theorem Sto.lt_nx {s : Sto} {n : Nat} {o : PO} (h : s.get n = some o) : n < s.nx := by
  unfold Sto.get at h
  obtain ⟨q, _⟩ := Array.getElem?_eq_some_iff.mp h
  exact q

abbrev Rho := Nat → Option Addr
def Le (ρ ρ' : Rho) : Prop := ∀ n a, ρ n = some a → ρ' n = some a
theorem Le.refl (ρ : Rho) : Le ρ ρ := fun _ _ h => h
theorem Le.trans {ρ ρ1 ρ2 : Rho} (a : Le ρ ρ1) (b : Le ρ1 ρ2) : Le ρ ρ2 := fun n x h => b n x (a n x h)

/-- a list that is only read: frozen, or of the module -/
def RoL (K : PySem.W.Frag) (H : Hp) (a : Addr) (xs : List V) : Prop :=
  (∃ o, H a = some (.frz o (.lst xs))) ∨
    ∃ (o : Obj) (its : Array Value) (n : Nat), K.lookup a = some o ∧ o.cls = .type "list" ∧ o.dict = none ∧ o.data = .seq its n ∧ its.size ≤ sizeLine ∧ Vals xs its.toList
theorem RoL.sql {K : PySem.W.Frag} {H : Hp} {a : Addr} {xs : List V} (h : RoL K H a xs) : SqL K H a xs := by
  rcases h with h | h
  · exact .inl (.inr h)
  · exact .inr h

/-- a tuple of the module -/
def KTup (K : PySem.W.Frag) (a : Addr) (xs : List V) : Prop := ∃ (o : Obj) (its : Array Value) (n : Nat), K.lookup a = some o ∧ o.cls = .type "tuple" ∧ o.data = .seq its n ∧ its.size ≤ sizeLine ∧ Vals xs its.toList
theorem KTup.sq {K : PySem.W.Frag} {H : Hp} {a : Addr} {xs : List V} (h : KTup K a xs) : SqT K H a xs := .inr h
mutual
inductive RelP (K : PySem.W.Frag) (ρ : Rho) (H : Hp) : PV → V → Prop
  | non : RelP K ρ H .non .non
  | bl (b : Bool) : RelP K ρ H (.bl b) (.bl b)
  | int (i : Int) : RelP K ρ H (.int i) (.int i)
  | str (x : Str) : RelP K ρ H (.str x) (.str x)
  | tup {xs : List PV} {a : Addr} {vs : List V} (h : H a = some (.tup vs)) (r : RelPs K ρ H xs vs) : RelP K ρ H (.tup xs) (.ref a)
  | ktp {xs : List PV} {a : Addr} {vs : List V} (h : KTup K a vs) (r : RelPs K ρ H xs vs) : RelP K ρ H (.ktp xs) (.ref a)
  | rls {xs : List PV} {a : Addr} {vs : List V} (h : RoL K H a vs) (r : RelPs K ρ H xs vs) : RelP K ρ H (.rls xs) (.ref a)
  | ref {n : Nat} {a : Addr} (h : ρ n = some a) : RelP K ρ H (.ref n) (.ref a)
  | ty (n : String) : RelP K ρ H (.ty n) (.ty n)
inductive RelPs (K : PySem.W.Frag) (ρ : Rho) (H : Hp) : List PV → List V → Prop
  | nil : RelPs K ρ H [] []
  | cons {x : PV} {v : V} {xs : List PV} {vs : List V} (h : RelP K ρ H x v) (t : RelPs K ρ H xs vs) : RelPs K ρ H (x :: xs) (v :: vs)
end

/-- what tuples and read-only lists there are stays -/
structure ExtW (K : PySem.W.Frag) (H H' : Hp) : Prop where
  tup : ∀ a vs, H a = some (.tup vs) → H' a = some (.tup vs)
  rol : ∀ a vs, RoL K H a vs → RoL K H' a vs
/-- .. and what is frozen -/
structure Ext (K : PySem.W.Frag) (H H' : Hp) : Prop where
  w : ExtW K H H'
  frz : ∀ a o u, H a = some (.frz o u) → H' a = some (.frz o u)
theorem ExtW.refl {K : PySem.W.Frag} (H : Hp) : ExtW K H H := ⟨fun _ _ h => h, fun _ _ h => h⟩
theorem ExtW.trans {K : PySem.W.Frag} {H H1 H2 : Hp} (a : ExtW K H H1) (b : ExtW K H1 H2) : ExtW K H H2 := ⟨fun x v h => b.tup x v (a.tup x v h), fun x v h => b.rol x v (a.rol x v h)⟩
theorem Ext.refl {K : PySem.W.Frag} (H : Hp) : Ext K H H := ⟨ExtW.refl H, fun _ _ _ h => h⟩
theorem Ext.trans {K : PySem.W.Frag} {H H1 H2 : Hp} (a : Ext K H H1) (b : Ext K H1 H2) : Ext K H H2 := ⟨a.w.trans b.w, fun x o u h => b.frz x o u (a.frz x o u h)⟩
theorem ExtW.new {K : PySem.W.Frag} {H : Hp} {p : Addr} {o : HO} (h : H p = none) : ExtW K H (upd H p o) where
  tup := fun a vs q => by rw [upd_ne (ne_of_none q h)]; exact q
  rol := fun a vs q => by
    rcases q with ⟨z, q⟩ | q
    · exact .inl ⟨z, by rw [upd_ne (ne_of_none q h)]; exact q⟩
    · exact .inr q
theorem Ext.new {K : PySem.W.Frag} {H : Hp} {p : Addr} {o : HO} (h : H p = none) : Ext K H (upd H p o) := ⟨ExtW.new h, fun a z u q => by rw [upd_ne (ne_of_none q h)]; exact q⟩
/-- a list, a dict (frozen or not), an instance -/
def NotSeq : HO → Prop
  | .lst _ => True
  | .dK _ => True
  | .dT _ => True
  | .ins _ _ _ => True
  | .frz _ (.dK _) => True
  | .frz _ (.dT _) => True
  | _ => False
/-- what may be written -/
def Soft : HO → Prop
  | .lst _ => True
  | .dK _ => True
  | .dT _ => True
  | .ins _ _ _ => True
  | _ => False
theorem Soft.notSeq {u : HO} (h : Soft u) : NotSeq u := by
  cases u <;> first | trivial | exact h.elim
theorem ExtW.write {K : PySem.W.Frag} {H : Hp} {p : Addr} {o u : HO} (h : H p = some u) (s : NotSeq u) : ExtW K H (upd H p o) where
  tup := fun a vs q => by
    have ne : a ≠ p := fun e => by
      subst e
      rw [h] at q
      cases q
      exact s
    rw [upd_ne ne]; exact q
  rol := fun a vs q => by
    rcases q with ⟨z, q⟩ | q
    · refine .inl ⟨z, ?_⟩
      have ne : a ≠ p := fun e => by
        subst e
        rw [h] at q
        cases q
        exact s
      rw [upd_ne ne]; exact q
    · exact .inr q
theorem Ext.write {K : PySem.W.Frag} {H : Hp} {p : Addr} {o u : HO} (h : H p = some u) (s : Soft u) : Ext K H (upd H p o) := ⟨ExtW.write h s.notSeq, fun a z w q => by
  have ne : a ≠ p := fun e => by
    subst e
    rw [h] at q
    cases q
    exact s
  rw [upd_ne ne]; exact q⟩

mutual
theorem RelP.monoW {K : PySem.W.Frag} {ρ ρ' : Rho} {H H' : Hp} (l : Le ρ ρ') (e : ExtW K H H') : ∀ {x : PV} {v : V}, RelP K ρ H x v → RelP K ρ' H' x v
  | _, _, .non => .non
  | _, _, .bl b => .bl b
  | _, _, .int i => .int i
  | _, _, .str x => .str x
  | _, _, .tup h r => .tup (e.tup _ _ h) (RelPs.monoW l e r)
  | _, _, .ktp h r => .ktp h (RelPs.monoW l e r)
  | _, _, .rls h r => .rls (e.rol _ _ h) (RelPs.monoW l e r)
  | _, _, .ref h => .ref (l _ _ h)
  | _, _, .ty v => .ty v
theorem RelPs.monoW {K : PySem.W.Frag} {ρ ρ' : Rho} {H H' : Hp} (l : Le ρ ρ') (e : ExtW K H H') : ∀ {x : List PV} {v : List V}, RelPs K ρ H x v → RelPs K ρ' H' x v
  | _, _, .nil => .nil
  | _, _, .cons h t => .cons (RelP.monoW l e h) (RelPs.monoW l e t)
end
theorem RelP.mono {K : PySem.W.Frag} {ρ ρ' : Rho} {H H' : Hp} (l : Le ρ ρ') (e : Ext K H H') {x : PV} {v : V} (h : RelP K ρ H x v) : RelP K ρ' H' x v := h.monoW l e.w
theorem RelPs.mono {K : PySem.W.Frag} {ρ ρ' : Rho} {H H' : Hp} (l : Le ρ ρ') (e : Ext K H H') {x : List PV} {v : List V} (h : RelPs K ρ H x v) : RelPs K ρ' H' x v := h.monoW l e.w
section
variable {K : PySem.W.Frag} {ρ ρ' : Rho} {H H' : Hp}
theorem RelPs.length : ∀ {xs : List PV} {vs : List V}, RelPs K ρ H xs vs → xs.length = vs.length
  | _, _, .nil => rfl
  | _, _, .cons _ t => by rw [List.length_cons, List.length_cons, RelPs.length t]
theorem RelPs.append : ∀ {xs ys : List PV} {vs ws : List V}, RelPs K ρ H xs vs → RelPs K ρ H ys ws → RelPs K ρ H (xs ++ ys) (vs ++ ws)
  | _, _, _, _, .nil, s => s
  | _, _, _, _, .cons h t, s => .cons h (RelPs.append t s)
theorem RelPs.get : ∀ {xs : List PV} {vs : List V} {i : Nat} {x : PV}, RelPs K ρ H xs vs → xs[i]? = some x → ∃ v, vs[i]? = some v ∧ RelP K ρ H x v
  | _, _, i, x, .nil, e => by simp at e
  | _, _, 0, x, .cons h t, e => by
    simp at e
    subst e
    exact ⟨_, rfl, h⟩
  | _, _, i + 1, x, .cons h t, e => by
    obtain ⟨v, h1, h2⟩ := RelPs.get (i := i) (x := x) t (by simpa using e)
    exact ⟨v, by simpa using h1, h2⟩
theorem RelPs.set : ∀ {xs : List PV} {vs : List V} (i : Nat) {x : PV} {v : V}, RelPs K ρ H xs vs → RelP K ρ H x v → RelPs K ρ H (xs.set i x) (vs.set i v)
  | _, _, _, _, _, .nil, _ => .nil
  | _, _, 0, _, _, .cons _ t, q => .cons q t
  | _, _, i + 1, _, _, .cons h t, q => .cons h (RelPs.set i t q)
theorem RelPs.take : ∀ {xs : List PV} {vs : List V} (n : Nat), RelPs K ρ H xs vs → RelPs K ρ H (xs.take n) (vs.take n)
  | _, _, 0, _ => by simp; exact .nil
  | _, _, n + 1, .nil => .nil
  | _, _, n + 1, .cons h t => by simp; exact .cons h (RelPs.take n t)
theorem RelPs.drop : ∀ {xs : List PV} {vs : List V} (n : Nat), RelPs K ρ H xs vs → RelPs K ρ H (xs.drop n) (vs.drop n)
  | _, _, 0, h => by simpa using h
  | _, _, n + 1, .nil => .nil
  | _, _, n + 1, .cons h t => by simp; exact RelPs.drop n t
end

abbrev Sl := List (Option PV)
def RelO' (K : PySem.W.Frag) (ρ : Rho) (H : Hp) : Option PV → Option V → Prop
  | none, _ => True
  | some x, some v => RelP K ρ H x v
  | some _, none => False
/-- what is known of the slots: less may be known than there is -/
def RelS (K : PySem.W.Frag) (ρ : Rho) (H : Hp) (σp : Sl) (σ : L2.St) : Prop := σp.length = σ.length ∧ ∀ (i : Nat) (x : PV), σp[i]? = some (some x) → ∃ v, σ[i]? = some (some v) ∧ RelP K ρ H x v
section
variable {K : PySem.W.Frag} {ρ ρ' : Rho} {H H' : Hp} {σp : Sl} {σ : L2.St}
theorem RelS.monoW (l : Le ρ ρ') (e : ExtW K H H') (h : RelS K ρ H σp σ) : RelS K ρ' H' σp σ := ⟨h.1, fun i x q => let ⟨v, a, b⟩ := h.2 i x q; ⟨v, a, b.monoW l e⟩⟩
theorem RelS.mono (l : Le ρ ρ') (e : Ext K H H') (h : RelS K ρ H σp σ) : RelS K ρ' H' σp σ := h.monoW l e.w
theorem RelS.set (h : RelS K ρ H σp σ) (i : Nat) {x : PV} {v : V} (r : RelP K ρ H x v) : RelS K ρ H (σp.set i (some x)) (σ.set i (some v)) := by
  refine ⟨by simp [h.1], fun j y q => ?_⟩
  by_cases hj : i = j
  · subst hj
    have hl : i < σp.length := by
      by_cases hl : i < σp.length
      · exact hl
      · rw [List.getElem?_eq_none (by simp; omega)] at q; cases q
    rw [List.getElem?_set_self hl] at q
    cases q
    exact ⟨v, List.getElem?_set_self (by rw [← h.1]; exact hl), r⟩
  · rw [List.getElem?_set_ne hj] at q
    obtain ⟨w, a, b⟩ := h.2 j y q
    exact ⟨w, by rw [List.getElem?_set_ne hj]; exact a, b⟩
end

/-- the classes: where they stand, and which attributes their instances may have -/
structure CT where
  ad : Nat → Addr
  fld : Nat → List Str
  tabs : List (Addr × Str)
inductive RelFs (K : PySem.W.Frag) (ρ : Rho) (H : Hp) : List (Str × PV) → List (Str × V) → Prop
  | nil : RelFs K ρ H [] []
  | cons {f : Str} {x : PV} {v : V} {xs : List (Str × PV)} {vs : List (Str × V)} (h : RelP K ρ H x v) (t : RelFs K ρ H xs vs) : RelFs K ρ H ((f, x) :: xs) ((f, v) :: vs)
/-- a key of a dict: an int or a text, or a tuple of such -/
def keyK : PV → Option Key
  | .int i => some (.inl i)
  | .str x => some (.inr x)
  | _ => none
def keysK : List PV → Option (List Key)
  | [] => some []
  | x :: xs => match keyK x, keysK xs with
    | some k, some ks => some (k :: ks)
    | _, _ => none
def keyT : PV → Option (List Key)
  | .tup xs => keysK xs
  | _ => none
inductive RelDk (K : PySem.W.Frag) (ρ : Rho) (H : Hp) : List (PV × PV) → List (Key × V) → Prop
  | nil : RelDk K ρ H [] []
  | cons {x y : PV} {k : Key} {v : V} {xs : List (PV × PV)} {vs : List (Key × V)} (hk : keyK x = some k) (h : RelP K ρ H y v) (t : RelDk K ρ H xs vs) : RelDk K ρ H ((x, y) :: xs) ((k, v) :: vs)
inductive RelDt (K : PySem.W.Frag) (ρ : Rho) (H : Hp) : List (PV × PV) → List (List Key × V) → Prop
  | nil : RelDt K ρ H [] []
  | cons {x y : PV} {k : List Key} {v : V} {xs : List (PV × PV)} {vs : List (List Key × V)} (hk : keyT x = some k) (h : RelP K ρ H y v) (t : RelDt K ρ H xs vs) : RelDt K ρ H ((x, y) :: xs) ((k, v) :: vs)
/-- a dict by its pairs -/
def RelD (K : PySem.W.Frag) (ρ : Rho) (H : Hp) (kvs : List (PV × PV)) (u : HO) : Prop := (∃ vs, u = .dK vs ∧ RelDk K ρ H kvs vs) ∨ (kvs ≠ [] ∧ ∃ vs, u = .dT vs ∧ RelDt K ρ H kvs vs)
def ObjSim (K : PySem.W.Frag) (cl : CT) (ρ : Rho) (H : Hp) (a : Addr) : PO → Prop
  | .lst xs => ∃ vs, H a = some (.lst vs) ∧ RelPs K ρ H xs vs
  | .dct kvs lk => ∃ u, RelD K ρ H kvs u ∧ if lk = true then ∃ o, H a = some (.frz o u) else H a = some u
  | .ins c fs => ∃ dx vs, H a = some (.ins (cl.ad c) dx vs) ∧ RelFs K ρ H fs vs ∧ ∀ p ∈ fs, p.1 ∈ cl.fld c
structure Sim (K : PySem.W.Frag) (cl : CT) (ρ : Rho) (st : Sto) (H : Hp) : Prop where
  inj : ∀ m n a, ρ m = some a → ρ n = some a → m = n
  dom : ∀ n a, ρ n = some a → n < st.nx
  obj : ∀ n o, st.get n = some o → ∃ a, ρ n = some a ∧ ObjSim K cl ρ H a o
  tab : LamX.Tabs cl.tabs H
theorem tabs_write {T : List (Addr × Str)} {H : Hp} {a : Addr} {u u' : HO} (t : LamX.Tabs T H) (h : H a = some u) (s : NotSeq u) : LamX.Tabs T (upd H a u') := fun p hp => by
  obtain ⟨ps, h1, h2, h3⟩ := t p hp
  refine ⟨ps, ?_, h2, fun pos cv hc => ?_⟩
  · rw [upd_ne]
    · exact h1
    · intro e
      rw [e, h] at h1
      cases h1
      exact s
  · obtain ⟨c, e1, e2⟩ := h3 pos cv hc
    refine ⟨c, e1, ?_⟩
    rw [upd_ne]
    · exact e2
    · intro e
      rw [e, h] at e2
      have e3 : u = LamX.CodeO a p.2 := by rw [← e]; exact (Option.some.inj e2).trans (by rw [e])
      rw [e3] at s
      exact s
theorem tabs_new {T : List (Addr × Str)} {H : Hp} {a : Addr} {u : HO} (t : LamX.Tabs T H) (h : H a = none) : LamX.Tabs T (upd H a u) := t.ext fun b o q => by rw [upd_ne (ne_of_none q h)]; exact q
section
variable {K : PySem.W.Frag} {cl : CT} {ρ ρ' : Rho} {H H' : Hp} {st : Sto} {a : Addr} {o : PO}
theorem RelFs.monoW (l : Le ρ ρ') (e : ExtW K H H') {xs : List (Str × PV)} {vs : List (Str × V)} (h : RelFs K ρ H xs vs) : RelFs K ρ' H' xs vs := by
  induction h with
  | nil => exact .nil
  | cons h _ ih => exact .cons (h.monoW l e) ih
theorem RelDk.monoW (l : Le ρ ρ') (e : ExtW K H H') {xs : List (PV × PV)} {vs : List (Key × V)} (h : RelDk K ρ H xs vs) : RelDk K ρ' H' xs vs := by
  induction h with
  | nil => exact .nil
  | cons hk h _ ih => exact .cons hk (h.monoW l e) ih
theorem RelDt.monoW (l : Le ρ ρ') (e : ExtW K H H') {xs : List (PV × PV)} {vs : List (List Key × V)} (h : RelDt K ρ H xs vs) : RelDt K ρ' H' xs vs := by
  induction h with
  | nil => exact .nil
  | cons hk h _ ih => exact .cons hk (h.monoW l e) ih
theorem RelFs.mono (l : Le ρ ρ') (e : Ext K H H') {xs : List (Str × PV)} {vs : List (Str × V)} (h : RelFs K ρ H xs vs) : RelFs K ρ' H' xs vs := h.monoW l e.w
theorem RelDk.mono (l : Le ρ ρ') (e : Ext K H H') {xs : List (PV × PV)} {vs : List (Key × V)} (h : RelDk K ρ H xs vs) : RelDk K ρ' H' xs vs := h.monoW l e.w
theorem RelDt.mono (l : Le ρ ρ') (e : Ext K H H') {xs : List (PV × PV)} {vs : List (List Key × V)} (h : RelDt K ρ H xs vs) : RelDt K ρ' H' xs vs := h.monoW l e.w
theorem RelD.monoW (l : Le ρ ρ') (e : ExtW K H H') {kvs : List (PV × PV)} {u : HO} (h : RelD K ρ H kvs u) : RelD K ρ' H' kvs u := by
  rcases h with ⟨vs, q, r⟩ | ⟨ne, vs, q, r⟩
  · exact .inl ⟨vs, q, r.monoW l e⟩
  · exact .inr ⟨ne, vs, q, r.monoW l e⟩
theorem RelD.mono (l : Le ρ ρ') (e : Ext K H H') {kvs : List (PV × PV)} {u : HO} (h : RelD K ρ H kvs u) : RelD K ρ' H' kvs u := h.monoW l e.w
theorem ObjSim.mono (l : Le ρ ρ') (e : ExtW K H H') (ha : H' a = H a) (h : ObjSim K cl ρ H a o) : ObjSim K cl ρ' H' a o := by
  cases o with
  | lst xs => obtain ⟨vs, q, r⟩ := h; exact ⟨vs, ha.trans q, r.monoW l e⟩
  | dct kvs lk =>
    obtain ⟨u, r, q⟩ := h
    refine ⟨u, r.monoW l e, ?_⟩
    split
    · next hl => rw [if_pos hl] at q; obtain ⟨z, q⟩ := q; exact ⟨z, ha.trans q⟩
    · next hl => rw [if_neg hl] at q; exact ha.trans q
  | ins c fs => obtain ⟨dx, vs, q, r, z⟩ := h; exact ⟨dx, vs, ha.trans q, r.monoW l e, z⟩
theorem ObjSim.some (h : ObjSim K cl ρ H a o) : ∃ u, H a = some u := by
  cases o with
  | lst xs => obtain ⟨vs, q, r⟩ := h; exact ⟨_, q⟩
  | dct kvs lk =>
    obtain ⟨u, r, q⟩ := h
    split at q
    · obtain ⟨z, q⟩ := q; exact ⟨_, q⟩
    · exact ⟨_, q⟩
  | ins c fs => obtain ⟨dx, vs, q, r⟩ := h; exact ⟨_, q⟩
theorem Sim.rho (s : Sim K cl ρ st H) {n : Nat} (h : n < st.nx) : ∃ a, ρ n = some a := by
  have : ∃ o, st.get n = some o := by
    unfold Sto.get
    exact ⟨st.objs[n]'h, Array.getElem?_eq_getElem h⟩
  obtain ⟨o, e⟩ := this
  obtain ⟨a, q, _⟩ := s.obj n o e
  exact ⟨a, q⟩
theorem Sim.at_ (s : Sim K cl ρ st H) {n : Nat} (hr : ρ n = some a) (e : st.get n = some o) : ObjSim K cl ρ H a o := by
  obtain ⟨b, q, r⟩ := s.obj n o e
  rw [hr] at q
  cases q
  exact r
theorem Sim.there (s : Sim K cl ρ st H) {n : Nat} (hr : ρ n = some a) : ∃ u, H a = some u := by
  have h := s.dom n a hr
  have : ∃ o, st.get n = some o := by
    unfold Sto.get
    exact ⟨st.objs[n]'h, Array.getElem?_eq_getElem h⟩
  obtain ⟨o, e⟩ := this
  exact (s.at_ hr e).some
def Rho.put (ρ : Rho) (n : Nat) (a : Addr) : Rho := fun m => if m = n then some a else ρ m
theorem Rho.put_same {ρ : Rho} {n : Nat} {a : Addr} : ρ.put n a n = some a := if_pos rfl
theorem Sim.le_put (s : Sim K cl ρ st H) (p : Addr) : Le ρ (ρ.put st.nx p) := fun n a h => by
  unfold Rho.put
  rw [if_neg (Nat.ne_of_lt (s.dom n a h))]
  exact h
/-- the heap grew or changed at untracked places alone: nothing of the store's addresses changed -/
theorem Sim.keep (s : Sim K cl ρ st H) (e : ExtW K H H') (h : ∀ n a, ρ n = some a → H' a = H a) (t : LamX.Tabs cl.tabs H') : Sim K cl ρ st H' :=
  ⟨s.inj, s.dom, (fun n o q => let ⟨a, r, z⟩ := s.obj n o q; ⟨a, r, z.mono (Le.refl ρ) e (h n a r)⟩), t⟩
/-- a new object -/
theorem Sim.new (s : Sim K cl ρ st H) {p : Addr} {u : HO} (hp : H p = none) (hn : ObjSim K cl (ρ.put st.nx p) (upd H p u) p o) : Sim K cl (ρ.put st.nx p) (st.add o) (upd H p u) := by
  have fresh : ∀ n a, ρ n = some a → a ≠ p := fun n a h e => by
    obtain ⟨u, q⟩ := s.there h
    rw [e, hp] at q
    cases q
  refine ⟨fun m n a h1 h2 => ?_, fun n a h => ?_, fun n q h => ?_, tabs_new s.tab hp⟩
  · unfold Rho.put at h1 h2
    split at h1
    · next e1 =>
      cases h1
      split at h2
      · next e2 => exact e1.trans e2.symm
      · next e2 => exact absurd rfl (fresh _ _ h2)
    · next e1 =>
      split at h2
      · next e2 =>
        cases h2
        exact absurd rfl (fresh _ _ h1)
      · next e2 => exact s.inj _ _ _ h1 h2
  · rw [Sto.nx_add]
    unfold Rho.put at h
    split at h
    · next e => omega
    · next e => exact Nat.lt_succ_of_lt (s.dom n a h)
  · rw [Sto.get_add] at h
    split at h
    · next e =>
      cases h
      exact ⟨p, by rw [e]; exact Rho.put_same, hn⟩
    · next e =>
      obtain ⟨a, r, z⟩ := s.obj n q h
      exact ⟨a, s.le_put p n a r, z.mono (s.le_put p) (ExtW.new hp) (upd_ne (fresh n a r))⟩
/-- an object changed -/
theorem Sim.write (s : Sim K cl ρ st H) {n : Nat} {u u' : HO} (hr : ρ n = some a) (hu : H a = some u) (sf : NotSeq u) (hn : ObjSim K cl ρ (upd H a u') a o) : Sim K cl ρ (st.set n o) (upd H a u') := by
  refine ⟨s.inj, fun m b h => by rw [Sto.nx_set]; exact s.dom m b h, fun m q h => ?_, tabs_write s.tab hu sf⟩
  rw [Sto.get_set] at h
  split at h
  · next e =>
    subst e
    obtain ⟨z, hz, e2⟩ := Option.map_eq_some_iff.mp h
    subst e2
    exact ⟨a, hr, hn⟩
  · next e =>
    obtain ⟨b, r, z⟩ := s.obj m q h
    have ne : b ≠ a := fun e2 => e (s.inj m n a (e2 ▸ r) hr)
    exact ⟨b, r, z.mono (Le.refl ρ) (ExtW.write hu sf) (upd_ne ne)⟩
end

structure Exn where
  c : Nat
  fs : List (Str × PV)
inductive Res (α : Type) where
  | ok (a : α) (s : Sto)
  | err (e : Exn) (s : Sto)
  | stuck
def Res.bind {α β : Type} (r : Res α) (k : α → Sto → Res β) : Res β := match r with
  | .ok a s => k a s
  | .err e s => .err e s
  | .stuck => .stuck
def ExnRel (K : PySem.W.Frag) (cl : CT) (ρ : Rho) (H : Hp) (e : Exn) (C : Value) (d : Option Addr) : Prop :=
  C = .ref (cl.ad e.c) ∧ ((e.fs = [] ∧ d = none) ∨ ∃ dd vs, d = some dd ∧ H dd = some (.xd vs) ∧ RelFs K ρ H e.fs vs)
/-- what is wanted of a result, from ρ and H on -/
def Res.post {α : Type} (K : PySem.W.Frag) (cl : CT) (ρ : Rho) (H : Hp) (r : Res α) (P : α → Sto → Rho → Hp → Prop) (E : Value → Option Addr → Hp → Prop) : Prop := match r with
  | .ok a st => ∀ ρ' H', Le ρ ρ' → Ext K H H' → Sim K cl ρ' st H' → P a st ρ' H'
  | .err e st => ∀ ρ' H' C d, Le ρ ρ' → Ext K H H' → Sim K cl ρ' st H' → ExnRel K cl ρ' H' e C d → E C d H'
  | .stuck => False
section
variable {α β : Type} {K : PySem.W.Frag} {cl : CT} {ρ ρ' : Rho} {H H' : Hp} {st : Sto}
theorem Res.post.mono {r : Res α} {P : α → Sto → Rho → Hp → Prop} {E : Value → Option Addr → Hp → Prop} (h : r.post K cl ρ H P E) (l : Le ρ ρ') (e : Ext K H H') : r.post K cl ρ' H' P E := by
  cases r with
  | ok a st => exact fun ρ2 H2 l2 e2 s2 => h ρ2 H2 (l.trans l2) (e.trans e2) s2
  | err x st => exact fun ρ2 H2 C d l2 e2 s2 r2 => h ρ2 H2 C d (l.trans l2) (e.trans e2) s2 r2
  | stuck => exact h
theorem Res.post.bind {r : Res α} {k : α → Sto → Res β} {P : β → Sto → Rho → Hp → Prop} {E : Value → Option Addr → Hp → Prop} (h : (r.bind k).post K cl ρ H P E) :
    r.post K cl ρ H (fun a st' ρ' H' => (k a st').post K cl ρ' H' P E) E := by
  cases r with
  | ok a st => exact fun ρ2 H2 l2 e2 s2 => Res.post.mono h l2 e2
  | err x st => exact h
  | stuck => exact h
theorem Res.post.imp {r : Res α} {P P' : α → Sto → Rho → Hp → Prop} {E E' : Value → Option Addr → Hp → Prop} (h : r.post K cl ρ H P E)
    (hp : ∀ a st' ρ' H', Le ρ ρ' → Ext K H H' → Sim K cl ρ' st' H' → P a st' ρ' H' → P' a st' ρ' H') (he : ∀ C d H', E C d H' → E' C d H') : r.post K cl ρ H P' E' := by
  cases r with
  | ok a st => exact fun ρ2 H2 l2 e2 s2 => hp _ _ _ _ l2 e2 s2 (h ρ2 H2 l2 e2 s2)
  | err x st => exact fun ρ2 H2 C d l2 e2 s2 r2 => he _ _ _ (h ρ2 H2 C d l2 e2 s2 r2)
  | stuck => exact h
/-- as it stands -/
theorem Res.post.now {a : α} {P : α → Sto → Rho → Hp → Prop} {E : Value → Option Addr → Hp → Prop} (s : Sim K cl ρ st H) (h : (Res.ok a st).post K cl ρ H P E) : P a st ρ H := h ρ H (Le.refl ρ) (Ext.refl H) s
end

abbrev ME := Sl → Sto → Res PV
abbrev MEs := Sl → Sto → Res (List PV)
abbrev MT := Sl → Sto → Res Bool
/-- an expression's reading by a pure function; W: what is wanted of an exception -/
def tM (K : PySem.W.Frag) (cl : CT) (W : WX) (f : ME) : TE := fun σ H Q => ∃ ρ st σp, Sim K cl ρ st H ∧ RelS K ρ H σp σ ∧
  (f σp st).post K cl ρ H (fun v _ ρ' H' => ∀ w, RelP K ρ' H' v w → Q w H') fun C d H' => W C d σ H'
def tMT (K : PySem.W.Frag) (cl : CT) (W : WX) (f : MT) : TT := fun σ H Q => ∃ ρ st σp, Sim K cl ρ st H ∧ RelS K ρ H σp σ ∧
  (f σp st).post K cl ρ H (fun b _ _ H' => Q b H') fun C d H' => W C d σ H'
def tMA (K : PySem.W.Frag) (cl : CT) (W : WX) (f : MEs) : TA := fun σ H Q => ∃ ρ st σp, Sim K cl ρ st H ∧ RelS K ρ H σp σ ∧
  (f σp st).post K cl ρ H (fun vs _ ρ' H' => ∀ ws, RelPs K ρ' H' vs ws → Q ws H') fun C d H' => W C d σ H'
theorem _root_.L2.PE.imp {X : Cx} {e : Expr} {t t' : TE} (h : PE X e t) (i : ∀ σ H Q, t' σ H Q → t σ H Q) : PE X e t' := ⟨fun pins s σ H Q I q => h.run pins s σ H Q I (i σ H Q q)⟩
theorem _root_.L2.PT.imp {X : Cx} {e : Expr} {t t' : TT} (h : PT X e t) (i : ∀ σ H Q, t' σ H Q → t σ H Q) : PT X e t' := ⟨fun pins s σ H Q I q => h.run pins s σ H Q I (i σ H Q q)⟩
theorem _root_.L2.PA.imp {X : Cx} {e : List Expr} {t t' : TA} (h : PA X e t) (i : ∀ σ H Q, t' σ H Q → t σ H Q) : PA X e t' := ⟨fun pos pins s σ H Q I q => h.run pos pins s σ H Q I (i σ H Q q)⟩
theorem _root_.L2.PS.imp {X : Cx} {e : Stmt} {t t' : TS} (h : PS X e t) (i : ∀ D σ H, t' D σ H → t D σ H) : PS X e t' := ⟨fun pins s σ H D I q => h.run pins s σ H D I (i D σ H q)⟩
theorem _root_.L2.PSs.imp {X : Cx} {e : List Stmt} {t t' : TS} (h : PSs X e t) (i : ∀ D σ H, t' D σ H → t D σ H) : PSs X e t' := ⟨fun pins s σ H D I q => h.run pins s σ H D I (i D σ H q)⟩

section
variable {X : Cx} {cl : CT} {W : WX} {a b c : Expr} {fa fb : ME} {pos : Pos}

def mVar (i : Nat) : ME := fun σ st => match σ[i]? with
  | some (some v) => .ok v st
  | _ => .stuck
def mC (v : PV) : ME := fun _ st => .ok v st
theorem me_var (i : Nat) {x : Str} {pos : Pos} (hN : X.N[i]? = some x := by rfl) (hv : Vis X.env.scope x := by first | exact Or.inl rfl | exact Or.inr (Or.inl rfl) | exact Or.inr (Or.inr rfl)) (hd : (x == ("__debug__" : Str)) = false := by decide)
    (hcd : (x == ("__classdict__" : Str)) = false := by decide) : PE X (.Name x pos) (tM X.K cl W (mVar i)) := by
  refine (pe_var hN hv hd hcd).imp fun σ H Q ⟨ρ, st, σp, s, r, h⟩ => ?_
  unfold mVar at h
  split at h
  · next v e =>
    obtain ⟨w, h1, h2⟩ := r.2 i v e
    exact ⟨w, h1, h.now s w h2⟩
  · exact h.elim
theorem me_c {v : PV} {w : V} (h : PE X a (tC w)) (r : ∀ ρ H, RelP X.K ρ H v w) : PE X a (tM X.K cl W (mC v)) :=
  h.imp fun σ H Q ⟨ρ, st, σp, s, _, h⟩ => h.now s w (r ρ H)
theorem me_int {i j pos} : PE X (.Constant (.int i) j pos) (tM X.K cl W (mC (.int i))) := me_c pe_int fun _ _ => .int i
theorem me_bl {i j pos} : PE X (.Constant (.bool i) j pos) (tM X.K cl W (mC (.bl i))) := me_c pe_bl fun _ _ => .bl i
theorem me_non {j pos} : PE X (.Constant .none j pos) (tM X.K cl W (mC .non)) := me_c pe_non fun _ _ => .non
theorem me_str {x j pos} : PE X (.Constant (.str x) j pos) (tM X.K cl W (mC (.str x))) := me_c pe_str fun _ _ => .str x

/-- a pure operation that stands for a rule's reading -/
def Op2 (K : PySem.W.Frag) (cl : CT) (r : R2) (f : PV → PV → Sto → Res PV) : Prop :=
  ∀ ρ st H x y v w (Q : VK), Sim K cl ρ st H → RelP K ρ H x v → RelP K ρ H y w → (f x y st).post K cl ρ H (fun z _ ρ' H' => ∀ u, RelP K ρ' H' z u → Q u H') (fun _ _ _ => False) → r v w H Q
def mOp (f : PV → PV → Sto → Res PV) (fa fb : ME) : ME := fun σ st => (fa σ st).bind fun x st1 => (fb σ st1).bind fun y st2 => f x y st2
/-- a pure function that raises nothing -/
def Calm2 (f : PV → PV → Sto → Res PV) : Prop := ∀ x y st e s', f x y st ≠ .err e s'
theorem post_calm {α : Type} {K : PySem.W.Frag} {ρ : Rho} {H : Hp} {r : Res α} {P : α → Sto → Rho → Hp → Prop} {E E' : Value → Option Addr → Hp → Prop} (hc : ∀ e s', r ≠ .err e s') (h : r.post K cl ρ H P E) : r.post K cl ρ H P E' := by
  cases r with
  | ok a s => exact h
  | err e s => exact absurd rfl (hc e s)
  | stuck => exact h
/-- what a result must be for what is wanted of its value -/
abbrev Val (K : PySem.W.Frag) (Q : VK) : PV → Sto → Rho → Hp → Prop := fun z _ ρ' H' => ∀ u, RelP K ρ' H' z u → Q u H'
abbrev NoE : Value → Option Addr → Hp → Prop := fun _ _ _ => False
/-- a two-place operation of the machine by a pure function -/
def OpW (X : Cx) (cl : CT) (f : Value → Value → Sem Value) (g : PV → PV → Sto → Res PV) : Prop :=
  ∀ (pins : List (Addr × Obj)) (s : Shared) (σ : L2.St) (H : Hp) (ρ : Rho) (st : Sto) (x y : PV) (v w : V) (vu wu : Value) (Q : VK), Inv X pins σ H s → Sim X.K cl ρ st H → RelP X.K ρ H x v → RelP X.K ρ H y w → RelV v vu → RelV w wu →
    (g x y st).post X.K cl ρ H (Val X.K Q) NoE → wpAny (model X.prog X.w) X.A (f vu wu) (EP X pins σ Q) X.xe s
theorem OpW.of {f : Value → Value → Sem Value} {r : R2} {g : PV → PV → Sto → Res PV} (ho : OpR X f r) (hm : Op2 X.K cl r g) : OpW X cl f g :=
  fun pins s σ H ρ st x y v w vu wu Q I S rx ry rv rw' h => ho pins s σ H v w vu wu Q I rv rw' (hm ρ st H x y v w Q S rx ry h)
theorem me_op {op : Operator} {g : PV → PV → Sto → Res PV} (ho : OpW X cl (binaryOp op) g) (hc : Calm2 g) (ha : PE X a (tM X.K cl W fa)) (hb : PE X b (tM X.K cl W fb)) : PE X (.BinOp a op b pos) (tM X.K cl W (mOp g fa fb)) := by
  refine ⟨fun pins s σ H Q I ⟨ρ, st, σp, S, rs, h⟩ => wpAny_BinOp ?_⟩
  refine thn (ha.run pins s σ H (fun v H1 => ∃ ρ1 st1 x, Sim X.K cl ρ1 st1 H1 ∧ RelS X.K ρ1 H1 σp σ ∧ RelP X.K ρ1 H1 x v ∧ ((fb σp st1).bind fun y st2 => g x y st2).post X.K cl ρ1 H1 (Val X.K Q) fun C d H' => W C d σ H') I ⟨ρ, st, σp, S, rs, Res.post.imp h.bind (fun x st1 ρ1 H1 l1 e1 s1 h1 v rv => ⟨ρ1, st1, x, s1, rs.mono l1 e1, rv, h1⟩) fun _ _ _ z => z⟩) fun vu s1 ⟨v, H1, I1, r1, ρ1, st1, x, S1, rs1, rx, h1⟩ => ?_
  refine thn (hb.run pins s1 σ H1 (fun w H2 => ∃ ρ2 st2 y, Sim X.K cl ρ2 st2 H2 ∧ RelP X.K ρ2 H2 x v ∧ RelP X.K ρ2 H2 y w ∧ (g x y st2).post X.K cl ρ2 H2 (Val X.K Q) fun C d H' => W C d σ H') I1 ⟨ρ1, st1, σp, S1, rs1, Res.post.imp h1.bind (fun y st2 ρ2 H2 l2 e2 s2 h2 w rw' => ⟨ρ2, st2, y, s2, rx.mono l2 e2, rw', h2⟩) fun _ _ _ z => z⟩) fun wu s2 ⟨w, H2, I2, r2, ρ2, st2, y, S2, rx2, ry2, h2⟩ => ?_
  exact ho pins s2 σ H2 ρ2 st2 x y v w vu wu Q I2 S2 rx2 ry2 r1 r2 (post_calm (hc x y st2) h2)
theorem me_cmp {op : CmpOp} {g : PV → PV → Sto → Res PV} (ho : OpW X cl (compareOp op) g) (hc : Calm2 g) (ha : PE X a (tM X.K cl W fa)) (hb : PE X b (tM X.K cl W fb)) (hk : behindInMarks op b = false := by first | exact nomark _ | rfl) :
    PE X (.Compare a [op] [b] pos) (tM X.K cl W (mOp g fa fb)) := by
  refine ⟨fun pins s σ H Q I ⟨ρ, st, σp, S, rs, h⟩ => wpAny_Compare1 ?_ hk⟩
  refine thn (ha.run pins s σ H (fun v H1 => ∃ ρ1 st1 x, Sim X.K cl ρ1 st1 H1 ∧ RelS X.K ρ1 H1 σp σ ∧ RelP X.K ρ1 H1 x v ∧ ((fb σp st1).bind fun y st2 => g x y st2).post X.K cl ρ1 H1 (Val X.K Q) fun C d H' => W C d σ H') I ⟨ρ, st, σp, S, rs, Res.post.imp h.bind (fun x st1 ρ1 H1 l1 e1 s1 h1 v rv => ⟨ρ1, st1, x, s1, rs.mono l1 e1, rv, h1⟩) fun _ _ _ z => z⟩) fun vu s1 ⟨v, H1, I1, r1, ρ1, st1, x, S1, rs1, rx, h1⟩ => ?_
  refine thn (hb.run pins s1 σ H1 (fun w H2 => ∃ ρ2 st2 y, Sim X.K cl ρ2 st2 H2 ∧ RelP X.K ρ2 H2 x v ∧ RelP X.K ρ2 H2 y w ∧ (g x y st2).post X.K cl ρ2 H2 (Val X.K Q) fun C d H' => W C d σ H') I1 ⟨ρ1, st1, σp, S1, rs1, Res.post.imp h1.bind (fun y st2 ρ2 H2 l2 e2 s2 h2 w rw' => ⟨ρ2, st2, y, s2, rx.mono l2 e2, rw', h2⟩) fun _ _ _ z => z⟩) fun wu s2 ⟨w, H2, I2, r2, ρ2, st2, y, S2, rx2, ry2, h2⟩ => ?_
  exact ho pins s2 σ H2 ρ2 st2 x y v w vu wu Q I2 S2 rx2 ry2 r1 r2 (post_calm (hc x y st2) h2)
end
end MP
set_option Elab.async false
set_option linter.all false
set_option maxRecDepth 100000
set_option maxHeartbeats 2000000
namespace MP
open PySem PySem.Spec L2

section
variable {X : Cx} {cl : CT} {W : WX} {a b c : Expr} {fa fb fc : ME} {pos : Pos}
theorem Op2.or {K : PySem.W.Frag} {r r' : R2} {f : PV → PV → Sto → Res PV} (p : PV → PV → Bool) (g g' : PV → PV → Sto → Res PV) (h : Op2 K cl r g) (h' : Op2 K cl r' g') : Op2 K cl (fun x y H Q => r x y H Q ∨ r' x y H Q) (fun x y st => if p x y then g x y st else g' x y st) := by
  intro ρ st H x y v w Q s rx ry q
  by_cases e : p x y = true
  · simp only [e, if_true] at q
    exact .inl (h ρ st H x y v w Q s rx ry q)
  · simp only [e, Bool.false_eq_true, if_false] at q
    exact .inr (h' ρ st H x y v w Q s rx ry q)

/-- two ints, under a condition -/
def opII (C : Int → Int → Bool) (g : Int → Int → PV) : PV → PV → Sto → Res PV := fun x y st => match x, y with
  | .int i, .int j => if C i j then .ok (g i j) st else .stuck
  | _, _ => .stuck
theorem calm_II {C : Int → Int → Bool} {g : Int → Int → PV} : Calm2 (opII C g) := by
  intro x y st e s' h
  unfold opII at h
  split at h
  · split at h <;> cases h
  · cases h
theorem op2_I {K : PySem.W.Frag} {C : Int → Int → Prop} {C' : Int → Int → Bool} {g : Int → Int → V} {g' : Int → Int → PV} (hC : ∀ i j, C' i j = true → C i j) (hg : ∀ ρ H i j, RelP K ρ H (g' i j) (g i j)) : Op2 K cl (rI C g) (opII C' g') := by
  intro ρ st H x y v w Q s rx ry q
  unfold opII at q
  split at q
  · split at q
    · next i j hc =>
      cases rx
      cases ry
      exact ⟨_, _, rfl, rfl, hC _ _ hc, Res.post.now s q _ (hg ρ H _ _)⟩
    · exact q.elim
  · exact q.elim
theorem op2_I0 {K : PySem.W.Frag} {g : Int → Int → V} {g' : Int → Int → PV} (hg : ∀ ρ H i j, RelP K ρ H (g' i j) (g i j)) : Op2 K cl (rI0 g) (opII (fun _ _ => true) g') := by
  intro ρ st H x y v w Q s rx ry q
  unfold opII at q
  split at q
  · split at q
    · next i j hc =>
      cases rx
      cases ry
      exact ⟨_, _, rfl, rfl, Res.post.now s q _ (hg ρ H _ _)⟩
    · exact q.elim
  · exact q.elim
def cMul (i j : Int) : Bool := (decide (-(2 ^ 64) < i) && decide (i < 2 ^ 64)) || (decide (-(2 ^ 64) < j) && decide (j < 2 ^ 64))
theorem cMul_ok (i j : Int) (h : cMul i j = true) : CMul i j := by
  unfold cMul at h
  simp only [Bool.or_eq_true, Bool.and_eq_true, decide_eq_true_eq] at h
  exact h
def cDiv (_ j : Int) : Bool := decide (0 < j) && decide (j < 1073741824)
theorem cDiv_ok (i j : Int) (h : cDiv i j = true) : CDiv i j := by
  unfold cDiv at h
  simp only [Bool.and_eq_true, decide_eq_true_eq] at h
  exact h
def cPow (i j : Int) : Bool := decide (0 ≤ j) && decide (j ≤ 1000000) && decide (i.natAbs < 2 ^ 64)
theorem cPow_ok (i j : Int) (h : cPow i j = true) : CPow i j := by
  unfold cPow at h
  simp only [Bool.and_eq_true, decide_eq_true_eq] at h
  exact ⟨h.1.1, h.1.2, h.2⟩
/-- i - j -/
def oSub := opII (fun _ _ => true) fun i j => .int (i - j)
def oMulI := opII cMul fun i j => .int (i * j)
def oDiv := opII cDiv fun i j => .int (i / j)
def oMod := opII (fun _ j => decide (0 < j)) fun i j => .int (i % j)
def oPow := opII cPow fun i j => .int (i ^ j.toNat)
def oLt := opII (fun _ _ => true) fun i j => .bl (decide (i < j))
def oLe := opII (fun _ _ => true) fun i j => .bl (decide (i ≤ j))
def oGt := opII (fun _ _ => true) fun i j => .bl (decide (j < i))
def oGe := opII (fun _ _ => true) fun i j => .bl (decide (j ≤ i))
theorem me_sub (ha : PE X a (tM X.K cl W fa)) (hb : PE X b (tM X.K cl W fb)) : PE X (.BinOp a .Sub b pos) (tM X.K cl W (mOp oSub fa fb)) := me_op (OpW.of op_sub (op2_I0 fun _ _ _ _ => .int _)) calm_II ha hb
theorem me_div (ha : PE X a (tM X.K cl W fa)) (hb : PE X b (tM X.K cl W fb)) : PE X (.BinOp a .FloorDiv b pos) (tM X.K cl W (mOp oDiv fa fb)) := me_op (OpW.of op_fdiv (op2_I cDiv_ok fun _ _ _ _ => .int _)) calm_II ha hb
theorem me_mod (ha : PE X a (tM X.K cl W fa)) (hb : PE X b (tM X.K cl W fb)) : PE X (.BinOp a .Mod b pos) (tM X.K cl W (mOp oMod fa fb)) := me_op (OpW.of op_mod (op2_I (fun _ _ h => of_decide_eq_true h) fun _ _ _ _ => .int _)) calm_II ha hb
theorem me_pow (ha : PE X a (tM X.K cl W fa)) (hb : PE X b (tM X.K cl W fb)) : PE X (.BinOp a .Pow b pos) (tM X.K cl W (mOp oPow fa fb)) := me_op (OpW.of op_pow (op2_I cPow_ok fun _ _ _ _ => .int _)) calm_II ha hb
theorem me_lt (ha : PE X a (tM X.K cl W fa)) (hb : PE X b (tM X.K cl W fb)) : PE X (.Compare a [.Lt] [b] pos) (tM X.K cl W (mOp oLt fa fb)) := me_cmp (OpW.of op_lt (op2_I0 fun _ _ _ _ => .bl _)) calm_II ha hb
theorem me_le (ha : PE X a (tM X.K cl W fa)) (hb : PE X b (tM X.K cl W fb)) : PE X (.Compare a [.LtE] [b] pos) (tM X.K cl W (mOp oLe fa fb)) := me_cmp (OpW.of op_le (op2_I0 fun _ _ _ _ => .bl _)) calm_II ha hb
theorem me_gt (ha : PE X a (tM X.K cl W fa)) (hb : PE X b (tM X.K cl W fb)) : PE X (.Compare a [.Gt] [b] pos) (tM X.K cl W (mOp oGt fa fb)) := me_cmp (OpW.of op_gt (op2_I0 fun _ _ _ _ => .bl _)) calm_II ha hb
theorem me_ge (ha : PE X a (tM X.K cl W fa)) (hb : PE X b (tM X.K cl W fb)) : PE X (.Compare a [.GtE] [b] pos) (tM X.K cl W (mOp oGe fa fb)) := me_cmp (OpW.of op_ge (op2_I0 fun _ _ _ _ => .bl _)) calm_II ha hb

/-- the new object's id is the store's next one -/
def mkNew (o : PO) (st : Sto) : Res PV := .ok (.ref st.nx) (st.add o)
/-- a list at a value: one's own, or one that is only read -/
def lstOf (x : PV) (st : Sto) : Option (List PV) := match x with
  | .rls xs => some xs
  | .ref n => match st.get n with
    | some (.lst xs) => some xs
    | _ => none
  | _ => none
theorem lstOf_sql {K : PySem.W.Frag} {ρ : Rho} {st : Sto} {H : Hp} {x : PV} {v : V} {xs : List PV} (s : Sim K cl ρ st H) (r : RelP K ρ H x v) (h : lstOf x st = some xs) : ∃ a vs, v = .ref a ∧ SqL K H a vs ∧ RelPs K ρ H xs vs := by
  unfold lstOf at h
  split at h
  · next ys =>
    cases h
    cases r with
    | rls h r => exact ⟨_, _, rfl, h.sql, r⟩
  · next n =>
    split at h
    · next ys e =>
      cases h
      cases r with
      | ref hr =>
        obtain ⟨vs, q, r⟩ := s.at_ hr e
        exact ⟨_, vs, rfl, SqL.of q, r⟩
    · cases h
  · cases h
/-- one's own list -/
def ownL (x : PV) (st : Sto) : Option (Nat × List PV) := match x with
  | .ref n => match st.get n with
    | some (.lst xs) => some (n, xs)
    | _ => none
  | _ => none
theorem ownL_at {K : PySem.W.Frag} {ρ : Rho} {st : Sto} {H : Hp} {x : PV} {v : V} {n : Nat} {xs : List PV} (s : Sim K cl ρ st H) (r : RelP K ρ H x v) (h : ownL x st = some (n, xs)) : ∃ a vs, v = .ref a ∧ ρ n = some a ∧ H a = some (.lst vs) ∧ RelPs K ρ H xs vs ∧ st.get n = some (.lst xs) := by
  unfold ownL at h
  split at h
  · next m =>
    split at h
    · next ys e =>
      cases h
      cases r with
      | ref hr =>
        obtain ⟨vs, q, r⟩ := s.at_ hr e
        exact ⟨_, vs, rfl, hr, q, r, e⟩
    · cases h
  · cases h
def sz (n : Nat) : Bool := decide (n ≤ 16777216)
theorem sz_ok {n : Nat} (h : sz n = true) : n ≤ sizeLine := by
  rw [sizeLine_eq]
  exact of_decide_eq_true h
theorem sz_lt {n : Nat} (h : sz (n + 1) = true) : n < sizeLine := sz_ok h
def oAddS : PV → PV → Sto → Res PV := fun x y st => match x, y with
  | .str a, .str b => if sz (a.length + b.length) then .ok (.str (a ++ b)) st else .stuck
  | _, _ => .stuck
def oAddL : PV → PV → Sto → Res PV := fun x y st => match ownL x st, ownL y st with
  | some (_, xs), some (_, ys) => if sz (xs.length + ys.length) then mkNew (.lst (xs ++ ys)) st else .stuck
  | _, _ => .stuck
def tupP (x : PV) : Option (List PV) := match x with
  | .tup xs => some xs
  | .ktp xs => some xs
  | _ => none
theorem tupP_at {K : PySem.W.Frag} {ρ : Rho} {H : Hp} {x : PV} {v : V} {xs : List PV} (h : tupP x = some xs) (r : RelP K ρ H x v) : ∃ a vs, v = .ref a ∧ SqT K H a vs ∧ RelPs K ρ H xs vs := by
  cases x <;> simp only [tupP] at h <;> cases h
  · cases r with
    | tup q r => exact ⟨_, _, rfl, SqT.of q, r⟩
  · cases r with
    | ktp q r => exact ⟨_, _, rfl, q.sq, r⟩
def oAddT : PV → PV → Sto → Res PV := fun x y st => match tupP x, tupP y with
  | some xs, some ys => if sz (xs.length + ys.length) && !xs.isEmpty then (if ys.isEmpty then .ok x st else .ok (.tup (xs ++ ys)) st) else .stuck
  | _, _ => .stuck
def oAdd : PV → PV → Sto → Res PV := fun x y st => match x, y with
  | .int i, .int j => .ok (.int (i + j)) st
  | .str a, .str b => oAddS (.str a) (.str b) st
  | x, y => if (tupP x).isSome = true then oAddT x y st else oAddL x y st
theorem post_ok_new {K : PySem.W.Frag} {ρ : Rho} {st : Sto} {H : Hp} {o : PO} {u : HO} {p : Addr} {P : PV → Sto → Rho → Hp → Prop} {E : Value → Option Addr → Hp → Prop} (s : Sim K cl ρ st H) (hp : H p = none) (hn : ObjSim K cl (ρ.put st.nx p) (upd H p u) p o)
    (h : (mkNew o st).post K cl ρ H P E) : P (.ref st.nx) (st.add o) (ρ.put st.nx p) (upd H p u) := h _ _ (s.le_put p) (Ext.new hp) (s.new hp hn)
theorem new_lst {K : PySem.W.Frag} {ρ : Rho} {st : Sto} {H : Hp} {p : Addr} {xs : List PV} {vs : List V} {Q : VK} {E : Value → Option Addr → Hp → Prop} (s : Sim K cl ρ st H) (hp : H p = none) (r : RelPs K ρ H xs vs)
    (h : (mkNew (.lst xs) st).post K cl ρ H (fun z _ ρ' H' => ∀ u, RelP K ρ' H' z u → Q u H') E) : Q (.ref p) (upd H p (.lst vs)) :=
  post_ok_new (o := .lst xs) (u := .lst vs) s hp ⟨_, upd_same, r.mono (s.le_put p) (Ext.new hp)⟩ h _ (.ref Rho.put_same)
theorem sim_up {K : PySem.W.Frag} {ρ : Rho} {st : Sto} {H : Hp} {p : Addr} {u : HO} (s : Sim K cl ρ st H) (hp : H p = none) : Sim K cl ρ st (upd H p u) := s.keep (ExtW.new hp) (fun n a h1 => upd_ne fun e => by
  obtain ⟨u, q⟩ := s.there h1
  rw [e, hp] at q
  cases q) (tabs_new s.tab hp)
theorem new_tup {K : PySem.W.Frag} {ρ : Rho} {st : Sto} {H : Hp} {p : Addr} {xs : List PV} {vs : List V} {Q : VK} {E : Value → Option Addr → Hp → Prop} (s : Sim K cl ρ st H) (hp : H p = none) (r : RelPs K ρ H xs vs)
    (h : (Res.ok (PV.tup xs) st).post K cl ρ H (fun z _ ρ' H' => ∀ u, RelP K ρ' H' z u → Q u H') E) : Q (.ref p) (upd H p (.tup vs)) :=
  h ρ _ (Le.refl ρ) (Ext.new hp) (sim_up s hp) _ (.tup upd_same (r.mono (Le.refl ρ) (Ext.new hp)))
theorem rel_new {K : PySem.W.Frag} {ρ : Rho} {st : Sto} {H : Hp} {p : Addr} : RelP K (ρ.put st.nx p) H (.ref st.nx) (.ref p) := .ref Rho.put_same
theorem op2_add {K : PySem.W.Frag} : Op2 K cl (fun x y H Q => rI0 (fun i j => .int (i + j)) x y H Q ∨ (∃ i j, x = .str i ∧ y = .str j ∧ i.length + j.length ≤ sizeLine ∧ Q (.str (i ++ j)) H) ∨ rCatT K x y H Q ∨ rCat x y H Q) oAdd := by
  intro ρ st H x y v w Q s rx ry q
  unfold oAdd at q
  split at q
  · cases rx
    cases ry
    exact .inl ⟨_, _, rfl, rfl, Res.post.now s q _ (.int _)⟩
  · unfold oAddS at q
    dsimp only at q
    split at q
    · next h =>
      cases rx
      cases ry
      exact .inr (.inl ⟨_, _, rfl, rfl, sz_ok h, Res.post.now s q _ (.str _)⟩)
    · exact q.elim
  · split at q
    · unfold oAddT at q
      split at q
      · next xs ys e1 e2 =>
        split at q
        · next h =>
          obtain ⟨a1, vs, rfl, hx, r1⟩ := tupP_at e1 rx
          obtain ⟨a2, ws, rfl, hy, r2⟩ := tupP_at e2 ry
          simp only [Bool.and_eq_true, Bool.not_eq_true'] at h
          have hl := sz_ok h.1
          rw [r1.length, r2.length] at hl
          have ne : vs ≠ [] := fun e => by
            subst e
            cases r1
            simp at h
          refine .inr (.inr (.inl ⟨_, _, vs, ws, rfl, rfl, hx, hy, ne, hl, fun e => ?_, fun e p hp => ?_⟩))
          · subst e
            cases r2
            rw [if_pos (by rfl)] at q
            exact Res.post.now s q _ rx
          · have ye : ¬ (ys.isEmpty = true) := fun z => by
              cases r2 with
              | nil => exact e rfl
              | cons _ _ => cases z
            rw [if_neg ye] at q
            exact new_tup s hp (r1.append r2) q
        · exact q.elim
      · exact q.elim
    · rename_i hnt
      clear hnt
      unfold oAddL at q
      split at q
      · next n xs m ys e1 e2 =>
        split at q
        · next h =>
          obtain ⟨a1, vs, rfl, r1, h1, p1, _⟩ := ownL_at s rx e1
          obtain ⟨a2, ws, rfl, r2, h2, p2, _⟩ := ownL_at s ry e2
          have hl := sz_ok h
          rw [p1.length, p2.length] at hl
          refine .inr (.inr (.inr ⟨_, _, vs, ws, rfl, rfl, h1, h2, hl, fun p hp => ?_⟩))
          exact new_lst s hp (p1.append p2) q
        · exact q.elim
      · exact q.elim
theorem calm_add : Calm2 oAdd := by
  intro x y st e s' h
  unfold oAdd at h
  split at h
  · cases h
  · unfold oAddS at h; dsimp only at h; split at h <;> cases h
  · split at h
    · unfold oAddT at h
      split at h
      · split at h
        · split at h <;> cases h
        · cases h
      · cases h
    · unfold oAddL at h
      split at h
      · split at h
        · unfold mkNew at h; cases h
        · cases h
      · cases h
theorem me_add (ha : PE X a (tM X.K cl W fa)) (hb : PE X b (tM X.K cl W fb)) : PE X (.BinOp a .Add b pos) (tM X.K cl W (mOp oAdd fa fb)) :=
  me_op (OpW.of (op_add.or (op_add_str.or (op_catT.or op_cat))) op2_add) calm_add ha hb
def repL (xs : List PV) (k : Nat) : List PV := (List.replicate k xs).flatten
theorem RelPs.rep {K : PySem.W.Frag} {ρ : Rho} {H : Hp} {xs : List PV} {vs : List V} (h : RelPs K ρ H xs vs) : ∀ k, RelPs K ρ H (List.replicate k xs).flatten (List.replicate k vs).flatten
  | 0 => .nil
  | k + 1 => by
    rw [List.replicate_succ, List.replicate_succ, List.flatten_cons, List.flatten_cons]
    exact h.append (RelPs.rep h k)
def oMulL : PV → PV → Sto → Res PV := fun x y st => match ownL x st, y with
  | some (_, xs), .int k => if decide (-(2 ^ 63) ≤ k) && decide (k < 2 ^ 63) && sz (xs.length * k.toNat) then mkNew (.lst (repL xs k.toNat)) st else .stuck
  | _, _ => .stuck
def oMul : PV → PV → Sto → Res PV := fun x y st => match x with
  | .int _ => oMulI x y st
  | _ => oMulL x y st
theorem op2_mul {K : PySem.W.Frag} : Op2 K cl (fun x y H Q => rI CMul (fun i j => .int (i * j)) x y H Q ∨ rRep x y H Q) oMul := by
  intro ρ st H x y v w Q s rx ry q
  unfold oMul at q
  split at q
  · exact .inl (op2_I (cl := cl) cMul_ok (fun _ _ _ _ => .int _) ρ st H _ y v w Q s rx ry q)
  · unfold oMulL at q
    split at q
    · next n xs k e1 =>
      split at q
      · next h =>
        obtain ⟨a1, vs, rfl, r1, h1, p1, _⟩ := ownL_at s rx e1
        cases ry
        simp only [Bool.and_eq_true, decide_eq_true_eq] at h
        have hl := sz_ok h.2
        rw [p1.length] at hl
        exact .inr ⟨_, _, vs, rfl, rfl, h1, h.1.1, h.1.2, hl, fun p hp => new_lst s hp (p1.rep _) q⟩
      · exact q.elim
    · exact q.elim
theorem calm_mul : Calm2 oMul := by
  intro x y st e s' h
  unfold oMul at h
  split at h
  · exact calm_II _ _ _ _ _ h
  · unfold oMulL at h
    split at h
    · split at h
      · unfold mkNew at h; cases h
      · cases h
    · cases h
theorem me_mul (ha : PE X a (tM X.K cl W fa)) (hb : PE X b (tM X.K cl W fb)) : PE X (.BinOp a .Mult b pos) (tM X.K cl W (mOp oMul fa fb)) :=
  me_op (OpW.of (op_mul.or op_rep) op2_mul) calm_mul ha hb
/-- -a -/
def mNeg (fa : ME) : ME := fun σ st => (fa σ st).bind fun x st1 => match x with
  | .int i => .ok (.int (-i)) st1
  | _ => .stuck
theorem me_neg (ha : PE X a (tM X.K cl W fa)) : PE X (.UnaryOp .USub a pos) (tM X.K cl W (mNeg fa)) := (pe_un un_neg ha).imp fun σ H Q ⟨ρ, st, σp, s, rs, h⟩ => by
  refine ⟨ρ, st, σp, s, rs, Res.post.imp h.bind (fun x st1 ρ1 H1 l1 e1 s1 h1 v rv => ?_) fun _ _ _ z => z⟩
  split at h1
  · cases rv
    exact ⟨_, rfl, Res.post.now s1 h1 _ (.int _)⟩
  · exact h1.elim

def truD (kvs : List (PV × PV)) : Option Bool := match kvs with
  | [] => some false
  | (k, _) :: _ => if (keyK k).isSome = true then some true else none
def truP (x : PV) (st : Sto) : Option Bool := match x with
  | .non => some false
  | .bl b => some b
  | .int i => some (i != 0)
  | .str y => if sz y.length then some ((y.length : Int) != 0) else none
  | .tup xs => some (!xs.isEmpty)
  | .ktp xs => some (!xs.isEmpty)
  | .rls xs => some (!xs.isEmpty)
  | .ref n => match st.get n with
    | some (.lst xs) => some (!xs.isEmpty)
    | some (.dct kvs lk) => truD kvs
    | _ => none
  | .ty _ => none
end
end MP
set_option Elab.async false
set_option linter.all false
set_option maxRecDepth 100000
set_option maxHeartbeats 2000000
namespace MP
open PySem PySem.Spec L2

section
variable {X : Cx} {cl : CT} {pins : List (Addr × Obj)} {σ : L2.St} {H : Hp} {s : Shared} {ρ : Rho} {st : Sto}
theorem RoL.vals (I : Inv X pins σ H s) {a : Addr} {xs : List V} (h : RoL X.K H a xs) : SqL X.K H a xs := h.sql
/-- a list at an address is no tuple there -/
theorem not_both (I : Inv X pins σ H s) {a : Addr} {xs ys : List V} (h : SqL X.K H a xs) (h' : SqT X.K H a ys) : False := by
  obtain ⟨its, _, ⟨o, n, e, c, _, _⟩, _⟩ := I.list h
  obtain ⟨its', _, ⟨o', e', c', _⟩, _⟩ := I.tuple h'
  rw [e] at e'
  cases e'
  rw [c] at c'
  exact absurd c' (by decide)
/-- what stands at an id's address is no tuple and no list that is only read -/
theorem obj_soft (S : Sim X.K cl ρ st H) {n : Nat} {a : Addr} (hr : ρ n = some a) : ∃ u, H a = some u ∧ NotSeq u := by
  have h := S.dom n a hr
  have : ∃ o, st.get n = some o := by
    unfold Sto.get
    exact ⟨st.objs[n]'h, Array.getElem?_eq_getElem h⟩
  obtain ⟨o, e⟩ := this
  have q := S.at_ hr e
  cases o with
  | lst xs => obtain ⟨vs, q, r⟩ := q; exact ⟨_, q, trivial⟩
  | dct kvs lk =>
    obtain ⟨u, r, q⟩ := q
    have hu : (∃ vs, u = .dT vs) ∨ ∃ vs, u = .dK vs := by
      rcases r with ⟨vs, z, _⟩ | ⟨_, vs, z, _⟩
      · exact .inr ⟨vs, z⟩
      · exact .inl ⟨vs, z⟩
    cases lk with
    | true =>
      obtain ⟨z, q⟩ := q
      rcases hu with ⟨vs, rfl⟩ | ⟨vs, rfl⟩ <;> exact ⟨_, q, trivial⟩
    | false => rcases hu with ⟨vs, rfl⟩ | ⟨vs, rfl⟩ <;> exact ⟨_, q, trivial⟩
  | ins c fs => obtain ⟨dx, vs, q, r⟩ := q; exact ⟨_, q, trivial⟩
theorem soft_rd {u : HO} {a : Addr} {xs : List V} (h : H a = some u) (sf : NotSeq u) : ¬ Rd H a (.tup xs) := fun q => by
  rcases q with q | ⟨z, q⟩
  · rw [h] at q; cases q; exact sf
  · rw [h] at q; cases q; exact sf
/-- an id's address in the state: its object is no list of the module .. -/
theorem ref_kL (I : Inv X pins σ H s) {a : Addr} {u : HO} (hu : H a = some u) {o : Obj} (hk : X.K.lookup a = some o) : False := by
  have e := I.ok.mod.kin a o hk
  have := (I.bs a o e).2
  rw [hu] at this
  cases this
theorem ref_tup (I : Inv X pins σ H s) (S : Sim X.K cl ρ st H) {n : Nat} {a : Addr} {vs : List V} (hr : ρ n = some a) (h : SqT X.K H a vs) : False := by
  obtain ⟨u, hu, sf⟩ := obj_soft S hr
  rcases h with h | ⟨o, _, _, hk, _⟩
  · exact soft_rd hu sf h
  · exact ref_kL I hu hk
theorem ref_rol (I : Inv X pins σ H s) (S : Sim X.K cl ρ st H) {n : Nat} {a : Addr} {vs : List V} (hr : ρ n = some a) (h : RoL X.K H a vs) : False := by
  obtain ⟨u, hu, sf⟩ := obj_soft S hr
  rcases h with ⟨z, h⟩ | ⟨o, _, _, hk, _⟩
  · rw [hu] at h; cases h; exact sf
  · exact ref_kL I hu hk
mutual
theorem RelP.inj (I : Inv X pins σ H s) (S : Sim X.K cl ρ st H) : ∀ {x y : PV} {v : V}, RelP X.K ρ H x v → RelP X.K ρ H y v → x = y
  | _, _, _, .non, h => by cases h; rfl
  | _, _, _, .bl b, h => by cases h; rfl
  | _, _, _, .int i, h => by cases h; rfl
  | _, _, _, .str x, h => by cases h; rfl
  | _, _, _, .ty n, h => by cases h; rfl
  | _, _, _, .tup (vs := vs) hq r, h => by
    cases h with
    | tup hq' r' => rw [I.tuple_inj (SqT.of hq') (SqT.of hq)] at r'; rw [RelPs.inj I S r r']
    | ktp hq' r' => obtain ⟨o, _, _, hk, _⟩ := hq'; exact (ref_kL I hq hk).elim
    | rls hq' r' => exact (not_both I hq'.sql (SqT.of hq)).elim
    | ref hr => exact (ref_tup I S hr (SqT.of hq)).elim
  | _, _, _, .ktp (vs := vs) hq r, h => by
    cases h with
    | tup hq' r' => obtain ⟨o, _, _, hk, _⟩ := hq; exact (ref_kL I hq' hk).elim
    | ktp hq' r' => rw [I.tuple_inj (hq'.sq (H := H)) (hq.sq (H := H))] at r'; rw [RelPs.inj I S r r']
    | rls hq' r' => exact (not_both I hq'.sql (hq.sq (H := H))).elim
    | ref hr => exact (ref_tup I S hr (hq.sq (H := H))).elim
  | _, _, _, .rls hq r, h => by
    cases h with
    | tup hq' r' => exact (not_both I hq.sql (SqT.of hq')).elim
    | ktp hq' r' => exact (not_both I hq.sql (hq'.sq (H := H))).elim
    | rls hq' r' => rw [I.list_inj hq'.sql hq.sql] at r'; rw [RelPs.inj I S r r']
    | ref hr => exact (ref_rol I S hr hq).elim
  | _, _, _, .ref hr, h => by
    cases h with
    | tup hq' r' => exact (ref_tup I S hr (SqT.of hq')).elim
    | ktp hq' r' => exact (ref_tup I S hr (hq'.sq (H := H))).elim
    | rls hq' r' => exact (ref_rol I S hr hq').elim
    | ref hr' => rw [S.inj _ _ _ hr hr']
theorem RelPs.inj (I : Inv X pins σ H s) (S : Sim X.K cl ρ st H) : ∀ {x y : List PV} {v : List V}, RelPs X.K ρ H x v → RelPs X.K ρ H y v → x = y
  | _, _, _, .nil, h => by cases h; rfl
  | _, _, _, .cons h t, h' => by
    cases h' with
    | cons h2 t2 => rw [RelP.inj I S h h2, RelPs.inj I S t t2]
end

/-- None, bools, ints, texts -/
def vOf : PV → Option V
  | .non => some .non
  | .bl b => some (.bl b)
  | .int i => some (.int i)
  | .str x => some (.str x)
  | _ => none
theorem vOf_rel {K : PySem.W.Frag} {x : PV} {v a : V} (r : RelP K ρ H x v) (h : vOf x = some a) : v = a ∧ flatV a = true := by
  cases r <;> first | (cases h; exact ⟨rfl, rfl⟩) | cases h
def eqS (x y : PV) : Option Bool := match vOf x, vOf y with
  | some a, some b => some (eqV a b)
  | _, _ => none
def isS (x : PV) : Bool := (vOf x).isSome
/-- a list or a tuple (true: a tuple) -/
def seqOf (x : PV) (st : Sto) : Option (Bool × List PV) := match x with
  | .tup xs => some (true, xs)
  | .ktp xs => some (true, xs)
  | x => (lstOf x st).map fun xs => (false, xs)
/-- the items' answers, up to the shorter one's end -/
def allEq (f : PV → PV → Option Bool) : List PV → List PV → Option Bool
  | x :: xs, y :: ys => match f x y, allEq f xs ys with
    | some a, some b => some (a && b)
    | _, _ => none
  | _, _ => some true
/-- one object -/
def oneRef : PV → PV → Bool
  | .ref a, .ref b => a == b
  | _, _ => false
/-- as items of a list compare: the same object is equal to itself -/
def eqN (st : Sto) (f : PV → PV → Option Bool) (x y : PV) : Option Bool := match seqOf x st, seqOf y st with
    | some (a, xs), some (b, ys) => if a = b then
        if a = true then (allEq f xs ys).map fun c => c && xs.length == ys.length
        else if xs.length = ys.length then allEq f xs ys else some false
      else some false
    | some _, none => if isS y then some false else none
    | none, some _ => if isS x then some false else none
    | none, none => eqS x y
def eqP (st : Sto) : Nat → PV → PV → Option Bool
  | 0, x, y => if oneRef x y then some true else eqS x y
  | n + 1, x, y => if oneRef x y then some true else eqN st (eqP st n) x y
theorem eqV_refl : ∀ {a : V}, flatV a = true → eqV a a = true := fun {a} h => by
  cases a <;> first | rfl | (simp [eqV]; done) | (exact absurd (show false = true from h) Bool.false_ne_true)
theorem eqS_refl {x : PV} {b : Bool} (h : eqS x x = some b) : b = true := by
  unfold eqS at h
  cases x <;> simp [vOf, eqV] at h <;> first | exact h.symm | exact h
theorem allEq_refl {f : PV → PV → Option Bool} (hf : ∀ x b, f x x = some b → b = true) : ∀ {xs : List PV} {c : Bool}, allEq f xs xs = some c → c = true
  | [], c, h => by simp [allEq] at h; exact h.symm ▸ rfl
  | x :: xs, c, h => by
    rw [allEq] at h
    cases e1 : f x x with
    | none => rw [e1] at h; cases h
    | some a =>
      cases e2 : allEq f xs xs with
      | none => rw [e1, e2] at h; cases h
      | some b =>
        rw [e1, e2] at h
        have h' : (a && b) = c := Option.some.inj h
        rw [← h', hf x a e1, allEq_refl hf e2]; rfl
theorem eqP_refl {st : Sto} : ∀ (n : Nat) (x : PV) (b : Bool), eqP st n x x = some b → b = true
  | 0, x, b, h => by
    unfold eqP at h
    split at h
    · cases h; rfl
    · exact eqS_refl h
  | n + 1, x, b, h => by
    unfold eqP at h
    split at h
    · cases h; rfl
    · unfold eqN at h
      split at h
      · next a xs b' ys e1 e2 =>
        rw [e1] at e2
        cases e2
        rw [if_pos rfl] at h
        split at h
        · cases e : allEq (eqP st n) xs xs with
          | none => rw [e] at h; cases h
          | some c =>
            rw [e] at h
            cases h
            rw [allEq_refl (eqP_refl n) e]
            simp
        · rw [if_pos rfl] at h
          exact allEq_refl (eqP_refl n) h
      · split at h
        · next e1 e2 _ => rw [e1] at e2; cases e2
        · cases h
      · split at h
        · next e1 e2 _ => rw [e1] at e2; cases e2
        · cases h
      · exact eqS_refl h
def ansAt (f : PV → PV → Option Bool) (xs ys : List PV) (j : Nat) : Bool := match xs[j]?, ys[j]? with
  | some x, some y => (f x y).getD false
  | _, _ => false
theorem allEq_at {f : PV → PV → Option Bool} : ∀ {xs ys : List PV} {c : Bool}, allEq f xs ys = some c →
    (∀ (j : Nat) (x y : PV), xs[j]? = some x → ys[j]? = some y → ∃ b, f x y = some b) ∧ c = (List.range (min xs.length ys.length)).all (ansAt f xs ys)
  | [], ys, c, h => by
    simp only [allEq, Option.some.injEq] at h
    subst h
    exact ⟨fun j x y e _ => by simp at e, by simp⟩
  | x :: xs, [], c, h => by
    simp only [allEq, Option.some.injEq] at h
    subst h
    exact ⟨fun j x y _ e => by simp at e, by simp⟩
  | x :: xs, y :: ys, c, h => by
    rw [allEq] at h
    cases e1 : f x y with
    | none => rw [e1] at h; cases h
    | some a =>
      cases e2 : allEq f xs ys with
      | none => rw [e1, e2] at h; cases h
      | some b =>
        rw [e1, e2] at h
        have h' : (a && b) = c := Option.some.inj h
        obtain ⟨i1, i2⟩ := allEq_at e2
        refine ⟨fun j x' y' ex ey => ?_, ?_⟩
        · cases j with
          | zero =>
            simp at ex ey
            subst ex ey
            exact ⟨a, e1⟩
          | succ j => exact i1 j x' y' (by simpa using ex) (by simpa using ey)
        · have hm : min (x :: xs).length (y :: ys).length = min xs.length ys.length + 1 := by simp only [List.length_cons]; omega
          have h0 : ansAt f (x :: xs) (y :: ys) 0 = a := by simp [ansAt, e1]
          have hs : ansAt f (x :: xs) (y :: ys) ∘ Nat.succ = ansAt f xs ys := by
            funext j
            simp [ansAt, Function.comp]
          rw [← h', hm, List.range_succ_eq_map, List.all_cons, List.all_map, h0, hs, ← i2]
theorem RelPs.ent {K : PySem.W.Frag} {xs : List PV} {vs : List V} {us : List Value} (h : RelPs K ρ H xs vs) (r : Vals vs us) (j : Nat) (hj : j < us.toArray.size) : ∃ x v, xs[j]? = some x ∧ vs[j]? = some v ∧ RelP K ρ H x v ∧ RelV v us.toArray[j] := by
  have h1 := h.length
  have h2 := r.length
  simp at hj
  have l1 : j < xs.length := by omega
  obtain ⟨v, e1, e2⟩ := h.get (i := j) (x := xs[j]) (List.getElem?_eq_getElem l1)
  obtain ⟨u, e3, e4⟩ := r.get e1
  refine ⟨xs[j], v, List.getElem?_eq_getElem l1, e1, e2, ?_⟩
  have : us.toArray[j] = u := by
    rw [List.getElem?_eq_getElem hj] at e3
    simpa using Option.some.inj e3
  rw [this]
  exact e4
theorem eqS_at {K : PySem.W.Frag} {x y : PV} {v w : V} {u t : Value} {b : Bool} {A : Around} {s : Shared} (rx : RelP K ρ H x v) (ry : RelP K ρ H y w) (rv : RelV v u) (rw' : RelV w t) (h : eqS x y = some b) : SeqAt.EqAt A s u t b := by
  unfold eqS at h
  split at h
  · next a c e1 e2 =>
    cases h
    obtain ⟨rfl, f1⟩ := vOf_rel rx e1
    obtain ⟨rfl, f2⟩ := vOf_rel ry e2
    exact eqAt_V rv rw' f1 f2
  · cases h
/-- the comparison itself, of flat values -/
theorem rcAt_V {A : Around} {s : Shared} {y x : V} {u v : Value} (ry : RelV y u) (rx : RelV x v) (fy : flatV y = true) (fx : flatV x = true) : SeqAt.RcAt A s u v (eqV y x) := by
  cases y with
  | non =>
    cases ry
    cases x with
    | non => cases rx; exact SeqAt.RcAt.none_none
    | bl b => cases rx; exact SeqAt.RcAt.none_bool b
    | int b => obtain ⟨t, rfl⟩ := rx; exact SeqAt.RcAt.none_int b t
    | str b => obtain ⟨t, rfl⟩ := rx; exact SeqAt.RcAt.none_str b t
    | _ => exact absurd (show false = true from fx) Bool.false_ne_true
  | bl a =>
    cases ry
    cases x with
    | non => cases rx; exact SeqAt.RcAt.bool_none a
    | bl b => cases rx; exact SeqAt.RcAt.bool_bool a b
    | int b => obtain ⟨t, rfl⟩ := rx; exact SeqAt.RcAt.bool_int a b t
    | str b => obtain ⟨t, rfl⟩ := rx; exact SeqAt.RcAt.bool_str a b t
    | _ => exact absurd (show false = true from fx) Bool.false_ne_true
  | int a =>
    obtain ⟨t', rfl⟩ := ry
    cases x with
    | non => cases rx; exact SeqAt.RcAt.int_none a t'
    | bl b => cases rx; exact SeqAt.RcAt.int_bool a t' b
    | int b => obtain ⟨t, rfl⟩ := rx; exact SeqAt.RcAt.int_int a t' b t
    | str b => obtain ⟨t, rfl⟩ := rx; exact SeqAt.RcAt.int_str a t' b t
    | _ => exact absurd (show false = true from fx) Bool.false_ne_true
  | str a =>
    obtain ⟨t', rfl⟩ := ry
    cases x with
    | non => cases rx; exact SeqAt.RcAt.str_none a t'
    | bl b => cases rx; exact SeqAt.RcAt.str_bool a t' b
    | int b => obtain ⟨t, rfl⟩ := rx; exact SeqAt.RcAt.str_int a t' b t
    | str b => obtain ⟨t, rfl⟩ := rx; exact SeqAt.RcAt.str_str a t' b t
    | _ => exact absurd (show false = true from fx) Bool.false_ne_true
  | _ => exact absurd (show false = true from fy) Bool.false_ne_true
theorem rcNeAt_V {A : Around} {s : Shared} {y x : V} {u v : Value} (ry : RelV y u) (rx : RelV x v) (fy : flatV y = true) (fx : flatV x = true) : SeqAt.RcNeAt A s u v (!eqV y x) := by
  cases y with
  | non =>
    cases ry
    cases x with
    | non => cases rx; exact SeqAt.RcNeAt.none_none
    | bl b => cases rx; exact SeqAt.RcNeAt.none_bool b
    | int b => obtain ⟨t, rfl⟩ := rx; exact SeqAt.RcNeAt.none_int b t
    | str b => obtain ⟨t, rfl⟩ := rx; exact SeqAt.RcNeAt.none_str b t
    | _ => exact absurd (show false = true from fx) Bool.false_ne_true
  | bl a =>
    cases ry
    cases x with
    | non => cases rx; exact SeqAt.RcNeAt.bool_none a
    | bl b => cases rx; exact SeqAt.RcNeAt.bool_bool a b
    | int b => obtain ⟨t, rfl⟩ := rx; exact SeqAt.RcNeAt.bool_int a b t
    | str b => obtain ⟨t, rfl⟩ := rx; exact SeqAt.RcNeAt.bool_str a b t
    | _ => exact absurd (show false = true from fx) Bool.false_ne_true
  | int a =>
    obtain ⟨t', rfl⟩ := ry
    cases x with
    | non => cases rx; exact SeqAt.RcNeAt.int_none a t'
    | bl b => cases rx; exact SeqAt.RcNeAt.int_bool a t' b
    | int b => obtain ⟨t, rfl⟩ := rx; exact SeqAt.RcNeAt.int_int a t' b t
    | str b => obtain ⟨t, rfl⟩ := rx; exact SeqAt.RcNeAt.int_str a t' b t
    | _ => exact absurd (show false = true from fx) Bool.false_ne_true
  | str a =>
    obtain ⟨t', rfl⟩ := ry
    cases x with
    | non => cases rx; exact SeqAt.RcNeAt.str_none a t'
    | bl b => cases rx; exact SeqAt.RcNeAt.str_bool a t' b
    | int b => obtain ⟨t, rfl⟩ := rx; exact SeqAt.RcNeAt.str_int a t' b t
    | str b => obtain ⟨t, rfl⟩ := rx; exact SeqAt.RcNeAt.str_str a t' b t
    | _ => exact absurd (show false = true from fx) Bool.false_ne_true
  | _ => exact absurd (show false = true from fy) Bool.false_ne_true
/-- the items of what is a list or a tuple -/
theorem seqOf_at (I : Inv X pins σ H s) (S : Sim X.K cl ρ st H) {x : PV} {v : V} {u : Value} {t : Bool} {xs : List PV} (rx : RelP X.K ρ H x v) (rv : RelV v u) (h : seqOf x st = some (t, xs)) :
    ∃ a vs its, u = .ref a ∧ RelPs X.K ρ H xs vs ∧ Vals vs its ∧ if t = true then s.heap.IsTuple a its.toArray else s.heap.IsList a its.toArray := by
  unfold seqOf at h
  split at h
  · cases h
    cases rx with
    | tup hq r =>
      cases rv
      obtain ⟨its, rvs, p, _⟩ := I.tuple (SqT.of hq)
      exact ⟨_, _, its, rfl, r, rvs, p⟩
  · cases h
    cases rx with
    | ktp hq r =>
      cases rv
      obtain ⟨its, rvs, p, _⟩ := I.tuple (hq.sq (H := H))
      exact ⟨_, _, its, rfl, r, rvs, p⟩
  · next y hy _ =>
    cases e : lstOf x st with
    | none => rw [e] at h; cases h
    | some ys =>
      rw [e] at h
      cases h
      obtain ⟨a, vs, rfl, hq, r⟩ := lstOf_sql S rx e
      cases rv
      obtain ⟨its, rvs, p, _⟩ := I.list hq
      exact ⟨a, vs, its, rfl, r, rvs, p.isList⟩
theorem oneRef_at {K : PySem.W.Frag} {x y : PV} {v w : V} {u t : Value} (rx : RelP K ρ H x v) (ry : RelP K ρ H y w) (rv : RelV v u) (rw' : RelV w t) (h : oneRef x y = true) : u = t := by
  unfold oneRef at h
  split at h
  · next a b =>
    have e : a = b := by simpa using h
    subst e
    cases rx with
    | ref h1 =>
      cases ry with
      | ref h2 =>
        rw [h1] at h2
        cases h2
        cases rv
        cases rw'
        rfl
  · cases h
theorem isS_at {K : PySem.W.Frag} {x : PV} {v : V} (r : RelP K ρ H x v) (h : isS x = true) : flatV v = true := by
  unfold isS at h
  obtain ⟨a, e⟩ := Option.isSome_iff_exists.mp h
  obtain ⟨rfl, f⟩ := vOf_rel r e
  exact f
/-- a sequence and a flat value -/
theorem seq_flat {A : Around} {s : Shared} {a : Addr} {its : Array Value} {w : V} {t : Value} {b : Bool} (hq : if b = true then s.heap.IsTuple a its else s.heap.IsList a its) (rw' : RelV w t) (f : flatV w = true) (hu : A.units < cLine) :
    SeqAt.EqAt A s (.ref a) t false ∧ SeqAt.RcAt A s (.ref a) t false ∧ SeqAt.RcNeAt A s (.ref a) t true ∧ SeqAt.EqAt A s t (.ref a) false ∧ SeqAt.RcAt A s t (.ref a) false ∧ SeqAt.RcNeAt A s t (.ref a) true := by
  cases b with
  | true =>
    have hq : s.heap.IsTuple a its := hq
    cases w with
    | non => cases rw'; exact ⟨.tuple_none hq hu, .tuple_none hq hu, .tuple_none hq hu, .none_tuple hq hu, .none_tuple hq hu, .none_tuple hq hu⟩
    | bl b => cases rw'; exact ⟨.tuple_bool _ hq hu, .tuple_bool _ hq hu, .tuple_bool _ hq hu, .bool_tuple _ hq hu, .bool_tuple _ hq hu, .bool_tuple _ hq hu⟩
    | int b => obtain ⟨t, rfl⟩ := rw'; exact ⟨.tuple_int _ _ hq hu, .tuple_int _ _ hq hu, .tuple_int _ _ hq hu, .int_tuple _ _ hq hu, .int_tuple _ _ hq hu, .int_tuple _ _ hq hu⟩
    | str b => obtain ⟨t, rfl⟩ := rw'; exact ⟨.tuple_str _ _ hq hu, .tuple_str _ _ hq hu, .tuple_str _ _ hq hu, .str_tuple _ _ hq hu, .str_tuple _ _ hq hu, .str_tuple _ _ hq hu⟩
    | _ => exact absurd (show false = true from f) Bool.false_ne_true
  | false =>
    have hq : s.heap.IsList a its := hq
    cases w with
    | non => cases rw'; exact ⟨.list_none hq hu, .list_none hq hu, .list_none hq hu, .none_list hq hu, .none_list hq hu, .none_list hq hu⟩
    | bl b => cases rw'; exact ⟨.list_bool _ hq hu, .list_bool _ hq hu, .list_bool _ hq hu, .bool_list _ hq hu, .bool_list _ hq hu, .bool_list _ hq hu⟩
    | int b => obtain ⟨t, rfl⟩ := rw'; exact ⟨.list_int _ _ hq hu, .list_int _ _ hq hu, .list_int _ _ hq hu, .int_list _ _ hq hu, .int_list _ _ hq hu, .int_list _ _ hq hu⟩
    | str b => obtain ⟨t, rfl⟩ := rw'; exact ⟨.list_str _ _ hq hu, .list_str _ _ hq hu, .list_str _ _ hq hu, .str_list _ _ hq hu, .str_list _ _ hq hu, .str_list _ _ hq hu⟩
    | _ => exact absurd (show false = true from f) Bool.false_ne_true
/-- two sequences: the comparisons, from their items' -/
theorem seq_seq {A : Around} {s : Shared} {a b : Addr} {its its2 : List Value} {p q : Bool} {e : Nat → Bool} {c : Bool} (h1 : if p = true then s.heap.IsTuple a its.toArray else s.heap.IsList a its.toArray) (h2 : if q = true then s.heap.IsTuple b its2.toArray else s.heap.IsList b its2.toArray)
    (hu : A.units < cLine) (he : p = q → (p = true ∨ its.length = its2.length) → ∀ j (h1 : j < its.toArray.size) (h2 : j < its2.toArray.size), SeqAt.EqAt A.in1 s its.toArray[j] its2.toArray[j] (e j))
    (hc : c = if p = q then if p = true then (List.range (min its.length its2.length)).all e && its.length == its2.length else if its.length = its2.length then (List.range (min its.length its2.length)).all e else false else false) :
    SeqAt.RcAt A s (.ref a) (.ref b) c ∧ SeqAt.RcNeAt A s (.ref a) (.ref b) (!c) := by
  by_cases hpq : p = q
  · subst hpq
    rw [if_pos rfl] at hc
    cases p with
    | true =>
      have h1 : s.heap.IsTuple a its.toArray := h1
      have h2 : s.heap.IsTuple b its2.toArray := h2
      rw [if_pos rfl] at hc
      have r1 := SeqAt.RcAt.tuples h1 h2 hu (he rfl (.inl rfl))
      have r2 := SeqAt.RcNeAt.tuples h1 h2 hu (he rfl (.inl rfl))
      simp only [List.size_toArray] at r1 r2
      rw [hc]
      exact ⟨r1, r2⟩
    | false =>
      have h1 : s.heap.IsList a its.toArray := h1
      have h2 : s.heap.IsList b its2.toArray := h2
      rw [if_neg Bool.false_ne_true] at hc
      by_cases hl : its.length = its2.length
      · rw [if_pos hl] at hc
        have r1 := SeqAt.RcAt.lists h1 h2 (by simpa using hl) hu (he rfl (.inr hl))
        have r2 := SeqAt.RcNeAt.lists h1 h2 (by simpa using hl) hu (he rfl (.inr hl))
        simp only [List.size_toArray] at r1 r2
        have hm : min its.length its2.length = its.length := by omega
        rw [hm] at hc
        rw [hc]
        exact ⟨r1, r2⟩
      · rw [if_neg hl] at hc
        rw [hc]
        exact ⟨.lists_lengths h1 h2 (by simpa using hl) hu, .lists_lengths h1 h2 (by simpa using hl) hu⟩
  · rw [if_neg hpq] at hc
    rw [hc]
    cases p with
    | true =>
      have hq : q = false := by cases q <;> simp_all
      subst hq
      exact ⟨.tuple_list h1 h2 hu, .tuple_list h1 h2 hu⟩
    | false =>
      have hq : q = true := by cases q <;> simp_all
      subst hq
      exact ⟨.list_tuple h1 h2 hu, .list_tuple h1 h2 hu⟩
/-- items' answers, over the machine's items -/
def ItemsAt (A : Around) (s : Shared) (its its2 : List Value) (e : Nat → Bool) : Prop := ∀ j (h1 : j < its.toArray.size) (h2 : j < its2.toArray.size), SeqAt.EqAt A s its.toArray[j] its2.toArray[j] (e j)
theorem eqN_at (I : Inv X pins σ H s) (S : Sim X.K cl ρ st H) {f : PV → PV → Option Bool} {A : Around} (hu : A.units < cLine)
    (hf : ∀ {x y : PV} {v w : V} {u t : Value} {b : Bool}, RelP X.K ρ H x v → RelP X.K ρ H y w → RelV v u → RelV w t → f x y = some b → SeqAt.EqAt A.in1 s u t b)
    {x y : PV} {v w : V} {u t : Value} {c : Bool} (rx : RelP X.K ρ H x v) (ry : RelP X.K ρ H y w) (rv : RelV v u) (rw' : RelV w t) (h : eqN st f x y = some c) :
    (SeqAt.RcAt A s u t c ∧ SeqAt.RcNeAt A s u t (!c)) ∧ ((∀ l b, u = .ref l → t = .ref b → l ≠ b) → SeqAt.EqAt A s u t c) := by
  unfold eqN at h
  split at h
  · next a xs b ys e1 e2 =>
    obtain ⟨a1, vs, its, rfl, r1, v1, q1⟩ := seqOf_at I S rx rv e1
    obtain ⟨a2, ws, its2, rfl, r2, v2, q2⟩ := seqOf_at I S ry rw' e2
    have l1 : xs.length = its.length := r1.length.trans v1.length
    have l2 : ys.length = its2.length := r2.length.trans v2.length
    have key : SeqAt.RcAt A s (.ref a1) (.ref a2) c ∧ SeqAt.RcNeAt A s (.ref a1) (.ref a2) (!c) := by
      have items : ∀ {d : Bool}, allEq f xs ys = some d → ItemsAt A.in1 s its its2 (ansAt f xs ys) ∧ d = (List.range (min its.length its2.length)).all (ansAt f xs ys) := fun {d} e => by
        obtain ⟨i1, i2⟩ := allEq_at e
        refine ⟨fun j h1 h2 => ?_, by rw [← l1, ← l2]; exact i2⟩
        obtain ⟨x', v', ex, ev, rx', rv'⟩ := r1.ent v1 j h1
        obtain ⟨y', w', ey, ew, ry', rw2⟩ := r2.ent v2 j h2
        obtain ⟨b', eb⟩ := i1 j x' y' ex ey
        have : ansAt f xs ys j = b' := by simp [ansAt, ex, ey, eb]
        rw [this]
        exact hf rx' ry' rv' rw2 eb
      by_cases hab : a = b
      · subst hab
        rw [if_pos rfl] at h
        by_cases ha : a = true
        · rw [if_pos ha] at h
          cases e : allEq f xs ys with
          | none => rw [e] at h; cases h
          | some d =>
            rw [e] at h
            have h' : (d && xs.length == ys.length) = c := Option.some.inj h
            obtain ⟨i1, i2⟩ := items e
            refine seq_seq q1 q2 hu (fun _ _ => i1) ?_
            rw [if_pos rfl, if_pos ha, ← h', i2, l1, l2]
        · rw [if_neg ha] at h
          by_cases hl : xs.length = ys.length
          · rw [if_pos hl] at h
            obtain ⟨i1, i2⟩ := items h
            refine seq_seq q1 q2 hu (fun _ _ => i1) ?_
            rw [if_pos rfl, if_neg ha, if_pos (by omega)]
            exact i2
          · rw [if_neg hl] at h
            cases h
            refine seq_seq (e := fun _ => false) q1 q2 hu (fun _ z => ?_) ?_
            · rcases z with z | z
              · exact absurd z ha
              · omega
            · rw [if_pos rfl, if_neg ha, if_neg (by omega)]
      · rw [if_neg hab] at h
        cases h
        exact seq_seq (e := fun _ => false) q1 q2 hu (fun z => absurd z hab) (by rw [if_neg hab])
    exact ⟨key, fun hne => SeqAt.EqAt.of_refs (hne _ _ rfl rfl) key.1⟩
  · next a xs e1 e2 =>
    obtain ⟨a1, vs, its, rfl, r1, v1, q1⟩ := seqOf_at I S rx rv e1
    split at h
    · next hs =>
      cases h
      obtain ⟨h1, h2, h3, _⟩ := seq_flat q1 rw' (isS_at ry hs) hu
      exact ⟨⟨h2, h3⟩, fun _ => h1⟩
    · cases h
  · next b ys e1 e2 =>
    obtain ⟨a2, ws, its2, rfl, r2, v2, q2⟩ := seqOf_at I S ry rw' e2
    split at h
    · next hs =>
      cases h
      obtain ⟨_, _, _, h1, h2, h3⟩ := seq_flat q2 rv (isS_at rx hs) hu
      exact ⟨⟨h2, h3⟩, fun _ => h1⟩
    · cases h
  · have h0 := h
    unfold eqS at h
    split at h
    · next a b e1 e2 =>
      cases h
      obtain ⟨rfl, f1⟩ := vOf_rel rx e1
      obtain ⟨rfl, f2⟩ := vOf_rel ry e2
      exact ⟨⟨rcAt_V rv rw' f1 f2, rcNeAt_V rv rw' f1 f2⟩, fun _ => eqS_at rx ry rv rw' h0⟩
    · cases h
theorem eqP_at (I : Inv X pins σ H s) (S : Sim X.K cl ρ st H) : ∀ (n : Nat) {A : Around}, A.units + n < cLine → ∀ {x y : PV} {v w : V} {u t : Value} {b : Bool}, RelP X.K ρ H x v → RelP X.K ρ H y w → RelV v u → RelV w t → eqP st n x y = some b → SeqAt.EqAt A s u t b
  | 0, A, hu, x, y, v, w, u, t, b, rx, ry, rv, rw', h => by
    unfold eqP at h
    split at h
    · next h1 =>
      cases h
      rw [oneRef_at rx ry rv rw' h1]
      exact SeqAt.EqAt.same _
    · exact eqS_at rx ry rv rw' h
  | n + 1, A, hu, x, y, v, w, u, t, b, rx, ry, rv, rw', h => by
    have h0 := h
    unfold eqP at h
    split at h
    · next h1 =>
      cases h
      rw [oneRef_at rx ry rv rw' h1]
      exact SeqAt.EqAt.same _
    · by_cases hut : ∃ l, u = .ref l ∧ t = .ref l
      · obtain ⟨l, rfl, rfl⟩ := hut
        have e : v = w := rv.inj rw'
        subst e
        have e2 := RelP.inj I S rx ry
        subst e2
        rw [eqP_refl (n + 1) x b h0]
        exact SeqAt.EqAt.same _
      · refine (eqN_at I S (by omega) (fun rx ry rv rw' h => eqP_at I S n (A := A.in1) (by show A.units + 1 + n < cLine; omega) rx ry rv rw' h) rx ry rv rw' h).2 fun l b e1 e2 z => hut ⟨l, e1, ?_⟩
        rw [z]
        exact e2
end

def oEq : PV → PV → Sto → Res PV := fun x y st => match eqN st (eqP st 60) x y with
  | some b => .ok (.bl b) st
  | none => .stuck
def oNe : PV → PV → Sto → Res PV := fun x y st => match eqN st (eqP st 60) x y with
  | some b => .ok (.bl (!b)) st
  | none => .stuck
section
variable {X : Cx} {cl : CT} {W : WX} {a b c : Expr} {fa fb fc : ME} {pos : Pos}
theorem calm_eq : Calm2 oEq := fun x y st e s' h => by unfold oEq at h; split at h <;> cases h
theorem calm_ne : Calm2 oNe := fun x y st e s' h => by unfold oNe at h; split at h <;> cases h
theorem ow_eq (hu : X.A.units + 64 < cLine) : OpW X cl (compareOp .Eq) oEq := fun pins s σ H ρ st x y v w vu wu Q I S rx ry rv rw' h => by
  unfold oEq at h
  split at h
  · next b e =>
    refine (eqN_at I S (by omega) (fun rx ry rv rw' h => eqP_at I S 60 (A := X.A.in1) (by show X.A.units + 1 + 60 < cLine; omega) rx ry rv rw' h) rx ry rv rw' e).1.1 X.prog X.w X.xe _ ?_
    exact ⟨.bl b, H, I, rfl, Res.post.now S h _ (.bl b)⟩
  · exact h.elim
theorem ow_ne (hu : X.A.units + 64 < cLine) : OpW X cl (compareOp .NotEq) oNe := fun pins s σ H ρ st x y v w vu wu Q I S rx ry rv rw' h => by
  unfold oNe at h
  split at h
  · next b e =>
    refine (eqN_at I S (by omega) (fun rx ry rv rw' h => eqP_at I S 60 (A := X.A.in1) (by show X.A.units + 1 + 60 < cLine; omega) rx ry rv rw' h) rx ry rv rw' e).1.2 X.prog X.w X.xe _ ?_
    exact ⟨.bl (!b), H, I, rfl, Res.post.now S h _ (.bl _)⟩
  · exact h.elim
theorem me_eq (hu : X.A.units + 64 < cLine) (ha : PE X a (tM X.K cl W fa)) (hb : PE X b (tM X.K cl W fb)) : PE X (.Compare a [.Eq] [b] pos) (tM X.K cl W (mOp oEq fa fb)) := me_cmp (ow_eq hu) calm_eq ha hb
theorem me_ne (hu : X.A.units + 64 < cLine) (ha : PE X a (tM X.K cl W fa)) (hb : PE X b (tM X.K cl W fb)) : PE X (.Compare a [.NotEq] [b] pos) (tM X.K cl W (mOp oNe fa fb)) := me_cmp (ow_ne hu) calm_ne ha hb
/-- a is None, a is not None -/
def oIsN : PV → PV → Sto → Res PV := fun x y st => match y with
  | .non => .ok (.bl (match x with | .non => true | _ => false)) st
  | _ => .stuck
def oNotN : PV → PV → Sto → Res PV := fun x y st => match y with
  | .non => .ok (.bl (match x with | .non => false | _ => true)) st
  | _ => .stuck
theorem me_isN (ha : PE X a (tM X.K cl W fa)) (hb : PE X b (tM X.K cl W fb)) : PE X (.Compare a [.Is] [b] pos) (tM X.K cl W (mOp oIsN fa fb)) := by
  refine me_cmp (OpW.of op_isN fun ρ st H x y v w Q S rx ry h => ?_) (fun x y st e s' h => by unfold oIsN at h; split at h <;> cases h) ha hb
  unfold oIsN at h
  split at h
  · cases ry
    have q := Res.post.now S h _ (.bl _)
    cases rx <;> exact ⟨rfl, q⟩
  · exact h.elim
theorem me_notN (ha : PE X a (tM X.K cl W fa)) (hb : PE X b (tM X.K cl W fb)) : PE X (.Compare a [.IsNot] [b] pos) (tM X.K cl W (mOp oNotN fa fb)) := by
  refine me_cmp (OpW.of op_notN fun ρ st H x y v w Q S rx ry h => ?_) (fun x y st e s' h => by unfold oNotN at h; split at h <;> cases h) ha hb
  unfold oNotN at h
  split at h
  · cases ry
    have q := Res.post.now S h _ (.bl _)
    cases rx <;> exact ⟨rfl, q⟩
  · exact h.elim

def mTru (f : ME) : MT := fun σ st => (f σ st).bind fun x st1 => match truP x st1 with
  | some b => .ok b st1
  | none => .stuck
theorem tru_at {ρ : Rho} {st : Sto} {H : Hp} {x : PV} {v : V} {b : Bool} {K : PySem.W.Frag} (S : Sim K cl ρ st H) (rx : RelP K ρ H x v) (h : truP x st = some b) : TruV K v H b ∨ ∃ a kvs, v = .ref a ∧ Rd H a (.dK kvs) ∧ b = !kvs.isEmpty := by
  have emp : ∀ {xs : List PV} {vs : List V}, RelPs K ρ H xs vs → (!xs.isEmpty) = !vs.isEmpty := fun r => by cases r <;> rfl
  have empk : ∀ {xs : List (PV × PV)} {vs : List (Key × V)}, RelDk K ρ H xs vs → (!xs.isEmpty) = !vs.isEmpty := fun r => by cases r <;> rfl
  unfold truP at h
  split at h
  · cases h; cases rx; exact .inl rfl
  · cases h; cases rx; exact .inl rfl
  · cases h; cases rx; exact .inl rfl
  · split at h
    · next hz => cases h; cases rx; exact .inl ⟨sz_ok hz, rfl⟩
    · cases h
  · cases h
    cases rx with
    | tup hq r => exact .inl (.inr (.inl ⟨_, SqT.of hq, emp r⟩))
  · cases h
    cases rx with
    | ktp hq r => exact .inl (.inr (.inl ⟨_, hq.sq, emp r⟩))
  · cases h
    cases rx with
    | rls hq r => exact .inl (.inl ⟨_, hq.sql, emp r⟩)
  · split at h
    · next e =>
      cases h
      cases rx with
      | ref hr =>
        obtain ⟨vs, q, r⟩ := S.at_ hr e
        exact .inl (.inl ⟨_, SqL.of q, emp r⟩)
    · next kvs lk e =>
      cases rx with
      | ref hr =>
        obtain ⟨u, r, q⟩ := S.at_ hr e
        have rd : ∀ {a : Addr} {w : HO}, (if lk = true then ∃ o, H a = some (.frz o w) else H a = some w) → Rd H a w := fun {a w} q => by
          split at q
          · obtain ⟨z, q⟩ := q; exact .inr ⟨z, q⟩
          · exact .inl q
        cases kvs with
        | nil =>
          have hb : b = false := Option.some.inj h.symm
          subst hb
          rcases r with ⟨vs, rfl, r⟩ | ⟨ne, _⟩
          · exact .inr ⟨_, vs, rfl, rd q, (empk r : (!([] : List (PV × PV)).isEmpty) = !vs.isEmpty)⟩
          · exact absurd rfl ne
        | cons p t =>
          obtain ⟨k, y⟩ := p
          have h : (if (keyK k).isSome = true then some true else none) = some b := h
          split at h
          · next hk =>
            have hb : b = true := Option.some.inj h.symm
            subst hb
            rcases r with ⟨vs, rfl, r⟩ | ⟨ne, vs, rfl, r⟩
            · exact .inr ⟨_, vs, rfl, rd q, empk r⟩
            · cases r with
              | cons hk2 _ _ => cases k <;> first | cases hk2 | simp [keyK] at hk
          · cases h
    · cases h
  · cases h
theorem tru_run {pins : List (Addr × Obj)} {s : Shared} {σ : L2.St} {H : Hp} {ρ : Rho} {st : Sto} {x : PV} {v : V} {u : Value} {b : Bool} {Q : Bool → Hp → Prop} (I : Inv X pins σ H s) (S : Sim X.K cl ρ st H) (rx : RelP X.K ρ H x v) (rv : RelV v u) (h : truP x st = some b) (q : Q b H) :
    wpAny (model X.prog X.w) X.A (truthy u) (TP X pins σ Q) X.xe s := by
  rcases tru_at S rx h with h1 | ⟨a, kvs, rfl, h1, rfl⟩
  · exact tru_ok pins s σ H v u Q I rv ⟨b, h1, q⟩
  · cases rv
    exact d_truth I h1 fun s' I' => ⟨H, I', q⟩
/-- any expression as a test by its value's truth -/
theorem mt_of (ha : PE X a (tM X.K cl W fa)) (he : ∀ whole, isTrue a X.env whole = (do let v ← whole; standAt a.pos; holding [v] (truthy v)) := by intro _; rfl) : PT X a (tMT X.K cl W (mTru fa)) := by
  refine ⟨fun pins s σ H Q I ⟨ρ, st, σp, S, rs, h⟩ => ?_⟩
  refine PyProof.Rows.isTrue_plain (thn (ha.run pins s σ H (fun v H1 => ∃ ρ1 st1 x b, Sim X.K cl ρ1 st1 H1 ∧ RelP X.K ρ1 H1 x v ∧ truP x st1 = some b ∧ Q b H1) I ⟨ρ, st, σp, S, rs, Res.post.imp h.bind (fun x st1 ρ1 H1 l1 e1 s1 h1 v rv => ?_) fun _ _ _ z => z⟩) fun vu s1 ⟨v, H1, I1, r1, ρ1, st1, x, b, S1, rx, e, q⟩ => tru_run I1 S1 rx r1 e q) (he _)
  split at h1
  · next b e => exact ⟨ρ1, st1, x, b, s1, rv, e, Res.post.now s1 h1⟩
  · exact h1.elim
end
end MP
set_option Elab.async false
set_option linter.all false
set_option maxRecDepth 100000
set_option maxHeartbeats 2000000
namespace MP
open PySem PySem.Spec L2
section
variable {X : Cx} {cl : CT} {W : WX} {a b c : Expr} {fa fb fc : ME} {ga gb : MT} {pos : Pos}
/-- what is known behind a part: for the part's continuation -/
abbrev Beh (X : Cx) (cl : CT) (W : WX) (σp : Sl) (σ : L2.St) (k : PV → Sto → Rho → Hp → Prop) : VK := fun v H1 => ∃ ρ1 st1 x, Sim X.K cl ρ1 st1 H1 ∧ RelS X.K ρ1 H1 σp σ ∧ RelP X.K ρ1 H1 x v ∧ k x st1 ρ1 H1
theorem tM.beh {σp : Sl} {σ : L2.St} {H : Hp} {ρ : Rho} {st : Sto} {f : ME} {k : PV → Sto → Rho → Hp → Prop} (S : Sim X.K cl ρ st H) (rs : RelS X.K ρ H σp σ) (h : (f σp st).post X.K cl ρ H k fun C d H' => W C d σ H') : tM X.K cl W f σ H (Beh X cl W σp σ k) :=
  ⟨ρ, st, σp, S, rs, Res.post.imp h (fun x st1 ρ1 H1 l1 e1 s1 h1 v rv => ⟨ρ1, st1, x, s1, rs.mono l1 e1, rv, h1⟩) fun _ _ _ z => z⟩
abbrev BehT (X : Cx) (cl : CT) (W : WX) (σp : Sl) (σ : L2.St) (k : Bool → Sto → Rho → Hp → Prop) : Bool → Hp → Prop := fun c H1 => ∃ ρ1 st1, Sim X.K cl ρ1 st1 H1 ∧ RelS X.K ρ1 H1 σp σ ∧ k c st1 ρ1 H1
theorem tMT.beh {σp : Sl} {σ : L2.St} {H : Hp} {ρ : Rho} {st : Sto} {f : MT} {k : Bool → Sto → Rho → Hp → Prop} (S : Sim X.K cl ρ st H) (rs : RelS X.K ρ H σp σ) (h : (f σp st).post X.K cl ρ H k fun C d H' => W C d σ H') : tMT X.K cl W f σ H (BehT X cl W σp σ k) :=
  ⟨ρ, st, σp, S, rs, Res.post.imp h (fun x st1 ρ1 H1 l1 e1 s1 h1 => ⟨ρ1, st1, s1, rs.mono l1 e1, h1⟩) fun _ _ _ z => z⟩

/-- a comparison as a test -/
theorem mt_cmp {op : CmpOp} {g : PV → PV → Sto → Res PV} (ho : OpW X cl (compareOp op) g) (hc : Calm2 g) (ha : PE X a (tM X.K cl W fa)) (hb : PE X b (tM X.K cl W fb)) (hk : behindInMarks op b = false := by first | exact nomark _ | rfl) :
    PT X (.Compare a [op] [b] pos) (tMT X.K cl W (mTru (mOp g fa fb))) := by
  refine ⟨fun pins s σ H Q I ⟨ρ, st, σp, S, rs, h⟩ => wpAny_isTrue_Compare1 ?_ hk⟩
  have h1 := Res.post.bind (Res.post.bind h)
  refine thn (ha.run pins s σ H _ I (tM.beh S rs (Res.post.bind (show ((fa σp st).bind fun x st1 => (fb σp st1).bind fun y st2 => g x y st2).post X.K cl ρ H _ _ from Res.post.bind h)))) fun vu s1 ⟨v, H1, I1, r1, ρ1, st1, x, S1, rs1, rx, h1⟩ => ?_
  refine thn (hb.run pins s1 σ H1 _ I1 (tM.beh S1 rs1 (Res.post.imp (Res.post.bind h1) (fun y st2 ρ2 H2 l2 e2 s2 h2 => (⟨rx.mono l2 e2, h2⟩ : RelP X.K ρ2 H2 x v ∧ _)) fun _ _ _ z => z))) fun wu s2 ⟨w, H2, I2, r2, ρ2, st2, y, S2, rs2, ry2, rx2, h2⟩ => ?_
  refine thn (ho pins s2 σ H2 ρ2 st2 x y v w vu wu (fun z H3 => ∃ ρ3 st3 q b, Sim X.K cl ρ3 st3 H3 ∧ RelP X.K ρ3 H3 q z ∧ truP q st3 = some b ∧ Q b H3) I2 S2 rx2 ry2 r1 r2 (Res.post.imp (post_calm (E' := NoE) (hc x y st2) h2) (fun q st3 ρ3 H3 l3 e3 s3 h3 z rz => ?_) fun _ _ _ z => z)) fun zu s3 ⟨z, H3, I3, r3, ρ3, st3, q, b, S3, rq, e, hq⟩ => tru_run I3 S3 rq r3 e hq
  split at h3
  · next b e => exact ⟨ρ3, st3, q, b, s3, rz, e, Res.post.now s3 h3⟩
  · exact h3.elim

def mAndT (ga gb : MT) : MT := fun σ st => (ga σ st).bind fun c st1 => if c = true then gb σ st1 else .ok false st1
def mOrT (ga gb : MT) : MT := fun σ st => (ga σ st).bind fun c st1 => if c = true then .ok true st1 else gb σ st1
def mNotT (ga : MT) : MT := fun σ st => (ga σ st).bind fun c st1 => .ok (!c) st1
theorem _root_.L2.PW.imp {X : Cx} {e : Expr} {t t' : TT} (h : PW X e t) (i : ∀ σ H Q, t' σ H Q → t σ H Q) : PW X e t' := ⟨fun wh pins s σ H Q I q => h.run wh pins s σ H Q I (i σ H Q q)⟩
theorem mw_and1 (ha : PT X a (tMT X.K cl W ga)) : PW X (.BoolOp .And [a] pos) (tMT X.K cl W ga) := pw_and1 ha
theorem mw_or1 (ha : PT X a (tMT X.K cl W ga)) : PW X (.BoolOp .Or [a] pos) (tMT X.K cl W ga) := pw_or1 ha
theorem mw_and {rest : List Expr} (ha : PT X a (tMT X.K cl W ga)) (hb : PW X (.BoolOp .And (b :: rest) pos) (tMT X.K cl W gb)) : PW X (.BoolOp .And (a :: b :: rest) pos) (tMT X.K cl W (mAndT ga gb)) :=
  (pw_and ha hb).imp fun σ H Q ⟨ρ, st, σp, S, rs, h⟩ => by
    refine ⟨ρ, st, σp, S, rs, Res.post.imp (Res.post.bind h) (fun c st1 ρ1 H1 l1 e1 s1 h1 => ?_) fun _ _ _ z => z⟩
    cases c with
    | true => exact iteT ⟨ρ1, st1, σp, s1, rs.mono l1 e1, h1⟩
    | false => exact iteF (Res.post.now s1 h1)
theorem mw_or {rest : List Expr} (ha : PT X a (tMT X.K cl W ga)) (hb : PW X (.BoolOp .Or (b :: rest) pos) (tMT X.K cl W gb)) : PW X (.BoolOp .Or (a :: b :: rest) pos) (tMT X.K cl W (mOrT ga gb)) :=
  (pw_or ha hb).imp fun σ H Q ⟨ρ, st, σp, S, rs, h⟩ => by
    refine ⟨ρ, st, σp, S, rs, Res.post.imp (Res.post.bind h) (fun c st1 ρ1 H1 l1 e1 s1 h1 => ?_) fun _ _ _ z => z⟩
    cases c with
    | false => exact iteF ⟨ρ1, st1, σp, s1, rs.mono l1 e1, h1⟩
    | true => exact iteT (Res.post.now s1 h1)
theorem mt_not (ha : PT X a (tMT X.K cl W ga)) : PT X (.UnaryOp .Not a pos) (tMT X.K cl W (mNotT ga)) := (pt_not ha).imp fun σ H Q ⟨ρ, st, σp, S, rs, h⟩ =>
  ⟨ρ, st, σp, S, rs, Res.post.imp (Res.post.bind h) (fun c st1 ρ1 H1 l1 e1 s1 h1 => Res.post.now s1 h1) fun _ _ _ z => z⟩
def mAnd (fa fb : ME) : ME := fun σ st => (fa σ st).bind fun x st1 => match truP x st1 with
  | some true => fb σ st1
  | some false => .ok x st1
  | none => .stuck
def mOr (fa fb : ME) : ME := fun σ st => (fa σ st).bind fun x st1 => match truP x st1 with
  | some true => .ok x st1
  | some false => fb σ st1
  | none => .stuck
def mNot (fa : ME) : ME := fun σ st => (fa σ st).bind fun x st1 => match truP x st1 with
  | some b => .ok (.bl (!b)) st1
  | none => .stuck
theorem me_one {op} {f : ME} (ha : PE X a (tM X.K cl W f)) : PE X (.BoolOp op [a] pos) (tM X.K cl W f) := pe_one ha
theorem me_and {rest : List Expr} (ha : PE X a (tM X.K cl W fa)) (hb : PE X (.BoolOp .And (b :: rest) pos) (tM X.K cl W fb)) : PE X (.BoolOp .And (a :: b :: rest) pos) (tM X.K cl W (mAnd fa fb)) := by
  refine ⟨fun pins s σ H Q I ⟨ρ, st, σp, S, rs, h⟩ => ?_⟩
  refine PyProof.Rows.BoolOp_and (thn (ha.run pins s σ H _ I (tM.beh S rs (Res.post.bind h))) fun vu s1 ⟨v, H1, I1, r1, ρ1, st1, x, S1, rs1, rx, h1⟩ => ?_)
  dsimp only at h1
  split at h1
  · next e =>
    refine thn (tru_run (Q := fun c H2 => c = true ∧ H2 = H1) I1 S1 rx r1 e ⟨rfl, rfl⟩) fun c s2 ⟨H2, I2, e1, e2⟩ => ?_
    subst e1 e2
    exact hb.run pins s2 σ _ Q I2 ⟨ρ1, st1, σp, S1, rs1, h1⟩
  · next e =>
    refine thn (tru_run (Q := fun c H2 => c = false ∧ H2 = H1) I1 S1 rx r1 e ⟨rfl, rfl⟩) fun c s2 ⟨H2, I2, e1, e2⟩ => ?_
    subst e1 e2
    exact ⟨v, _, I2, r1, Res.post.now S1 h1 v rx⟩
  · exact h1.elim
theorem me_or {rest : List Expr} (ha : PE X a (tM X.K cl W fa)) (hb : PE X (.BoolOp .Or (b :: rest) pos) (tM X.K cl W fb)) : PE X (.BoolOp .Or (a :: b :: rest) pos) (tM X.K cl W (mOr fa fb)) := by
  refine ⟨fun pins s σ H Q I ⟨ρ, st, σp, S, rs, h⟩ => ?_⟩
  refine PyProof.Rows.BoolOp_or (thn (ha.run pins s σ H _ I (tM.beh S rs (Res.post.bind h))) fun vu s1 ⟨v, H1, I1, r1, ρ1, st1, x, S1, rs1, rx, h1⟩ => ?_)
  dsimp only at h1
  split at h1
  · next e =>
    refine thn (tru_run (Q := fun c H2 => c = true ∧ H2 = H1) I1 S1 rx r1 e ⟨rfl, rfl⟩) fun c s2 ⟨H2, I2, e1, e2⟩ => ?_
    subst e1 e2
    exact ⟨v, _, I2, r1, Res.post.now S1 h1 v rx⟩
  · next e =>
    refine thn (tru_run (Q := fun c H2 => c = false ∧ H2 = H1) I1 S1 rx r1 e ⟨rfl, rfl⟩) fun c s2 ⟨H2, I2, e1, e2⟩ => ?_
    subst e1 e2
    exact hb.run pins s2 σ _ Q I2 ⟨ρ1, st1, σp, S1, rs1, h1⟩
  · exact h1.elim
theorem me_not (ha : PE X a (tM X.K cl W fa)) : PE X (.UnaryOp .Not a pos) (tM X.K cl W (mNot fa)) := by
  refine ⟨fun pins s σ H Q I ⟨ρ, st, σp, S, rs, h⟩ => ?_⟩
  refine PyProof.Rows.UnaryOp_ (thn (ha.run pins s σ H _ I (tM.beh S rs (Res.post.bind h))) fun vu s1 ⟨v, H1, I1, r1, ρ1, st1, x, S1, rs1, rx, h1⟩ => ?_)
  dsimp only at h1
  split at h1
  · next b e =>
    exact PyProof.Rows.not_of (thn (tru_run (Q := fun c H2 => Q (.bl (!c)) H2) I1 S1 rx r1 e (Res.post.now S1 h1 _ (.bl _))) fun c s2 ⟨H2, I2, q2⟩ => ⟨.bl (!c), H2, I2, rfl, q2⟩)
  · exact h1.elim
/-- a if t else b -/
def mIf (g : MT) (fa fb : ME) : ME := fun σ st => (g σ st).bind fun c st1 => if c = true then fa σ st1 else fb σ st1
theorem me_if (hc : PT X c (tMT X.K cl W ga)) (ha : PE X a (tM X.K cl W fa)) (hb : PE X b (tM X.K cl W fb)) : PE X (.IfExp c a b pos) (tM X.K cl W (mIf ga fa fb)) :=
  (pe_ifExp hc ha hb).imp fun σ H Q ⟨ρ, st, σp, S, rs, h⟩ => by
    refine ⟨ρ, st, σp, S, rs, Res.post.imp (Res.post.bind h) (fun c st1 ρ1 H1 l1 e1 s1 h1 => ?_) fun _ _ _ z => z⟩
    cases c with
    | true => exact iteT ⟨ρ1, st1, σp, s1, rs.mono l1 e1, h1⟩
    | false => exact iteF ⟨ρ1, st1, σp, s1, rs.mono l1 e1, h1⟩
/-- a op b op' c, of ints -/
def mChain (g g' : PV → PV → Sto → Res PV) (fa fb fc : ME) : ME := fun σ st => (fa σ st).bind fun x st1 => (fb σ st1).bind fun y st2 => (g x y st2).bind fun z st3 => match z with
  | .bl true => (fc σ st3).bind fun w st4 => g' y w st4
  | .bl false => .ok (.bl false) st3
  | _ => .stuck
theorem tM_chain {r r' : R2} {g g' : PV → PV → Sto → Res PV} (hm : Op2 X.K cl r g) (hc : Calm2 g) (hm' : Op2 X.K cl r' g') (hc' : Calm2 g') {σ : L2.St} {H : Hp} {Q : VK} (h : tM X.K cl W (mChain g g' fa fb fc) σ H Q) :
    tChain r r' (tM X.K cl W fa) (tM X.K cl W fb) (tM X.K cl W fc) σ H Q := by
  obtain ⟨ρ, st, σp, S, rs, h⟩ := h
  refine ⟨ρ, st, σp, S, rs, Res.post.imp (Res.post.bind h) (fun x st1 ρ1 H1 l1 e1 s1 h1 v rv => ?_) fun _ _ _ z => z⟩
  refine ⟨ρ1, st1, σp, s1, rs.mono l1 e1, Res.post.imp (Res.post.bind h1) (fun y st2 ρ2 H2 l2 e2 s2 h2 w rw' => ?_) fun _ _ _ z => z⟩
  refine hm ρ2 st2 H2 x y v w _ s2 (rv.mono l2 e2) rw' (Res.post.imp (post_calm (E' := NoE) (hc x y st2) (Res.post.bind h2)) (fun z st3 ρ3 H3 l3 e3 s3 h3 u ru => ?_) fun _ _ _ z => z)
  split at h3
  · cases ru
    refine ⟨true, rfl, iteT ⟨ρ3, st3, σp, s3, ((rs.mono l1 e1).mono l2 e2).mono l3 e3, Res.post.imp (Res.post.bind h3) (fun q st4 ρ4 H4 l4 e4 s4 h4 u' ru' => ?_) fun _ _ _ z => z⟩⟩
    exact hm' ρ4 st4 H4 y q w u' Q s4 ((rw'.mono l3 e3).mono l4 e4) ru' (post_calm (hc' y q st4) h4)
  · cases ru
    exact ⟨false, rfl, iteF (Res.post.now s3 h3 _ (.bl _))⟩
  · exact h3.elim
theorem me_chain {op op' : CmpOp} {r r' : R2} {g g' : PV → PV → Sto → Res PV} (ho : OpR X (compareOp op) r) (hm : Op2 X.K cl r g) (hc : Calm2 g) (ho' : OpR X (compareOp op') r') (hm' : Op2 X.K cl r' g') (hc' : Calm2 g')
    (ha : PE X a (tM X.K cl W fa)) (hb : PE X b (tM X.K cl W fb)) (hcc : PE X c (tM X.K cl W fc)) (hk : lastMarks [op, op'] [b, c] = false := by with_unfolding_all rfl) : PE X (.Compare a [op, op'] [b, c] pos) (tM X.K cl W (mChain g g' fa fb fc)) :=
  (pe_chain ho ho' ha hb hcc hk).imp fun _ _ _ h => tM_chain hm hc hm' hc' h
def mTstB (f : ME) : MT := fun σ st => (f σ st).bind fun x st1 => match x with
  | .bl b => .ok b st1
  | _ => .stuck
theorem mt_chain {op op' : CmpOp} {r r' : R2} {g g' : PV → PV → Sto → Res PV} (ho : OpR X (compareOp op) r) (hm : Op2 X.K cl r g) (hc : Calm2 g) (ho' : OpR X (compareOp op') r') (hm' : Op2 X.K cl r' g') (hc' : Calm2 g')
    (ha : PE X a (tM X.K cl W fa)) (hb : PE X b (tM X.K cl W fb)) (hcc : PE X c (tM X.K cl W fc)) (hk : lastMarks [op, op'] [b, c] = false := by with_unfolding_all rfl) : PT X (.Compare a [op, op'] [b, c] pos) (tMT X.K cl W (mTstB (mChain g g' fa fb fc))) :=
  (pt_chain ho ho' ha hb hcc hk).imp fun σ H Q ⟨ρ, st, σp, S, rs, h⟩ => by
    show tChain r r' _ _ _ σ H _
    refine tM_chain hm hc hm' hc' ⟨ρ, st, σp, S, rs, Res.post.imp (Res.post.bind h) (fun x st1 ρ1 H1 l1 e1 s1 h1 v rv => ?_) fun _ _ _ z => z⟩
    split at h1
    · cases rv
      exact ⟨_, rfl, Res.post.now s1 h1⟩
    · exact h1.elim
theorem o2_lt : Op2 X.K cl (rI0 fun i j => .bl (decide (i < j))) oLt := op2_I0 fun _ _ _ _ => .bl _
theorem o2_le : Op2 X.K cl (rI0 fun i j => .bl (decide (i ≤ j))) oLe := op2_I0 fun _ _ _ _ => .bl _
theorem me_lele (ha : PE X a (tM X.K cl W fa)) (hb : PE X b (tM X.K cl W fb)) (hcc : PE X c (tM X.K cl W fc)) (hk : lastMarks [CmpOp.LtE, CmpOp.LtE] [b, c] = false := by with_unfolding_all rfl) : PE X (.Compare a [.LtE, .LtE] [b, c] pos) (tM X.K cl W (mChain oLe oLe fa fb fc)) := me_chain op_le o2_le calm_II op_le o2_le calm_II ha hb hcc hk
theorem mt_lele (ha : PE X a (tM X.K cl W fa)) (hb : PE X b (tM X.K cl W fb)) (hcc : PE X c (tM X.K cl W fc)) (hk : lastMarks [CmpOp.LtE, CmpOp.LtE] [b, c] = false := by with_unfolding_all rfl) : PT X (.Compare a [.LtE, .LtE] [b, c] pos) (tMT X.K cl W (mTstB (mChain oLe oLe fa fb fc))) := mt_chain op_le o2_le calm_II op_le o2_le calm_II ha hb hcc hk
theorem me_lelt (ha : PE X a (tM X.K cl W fa)) (hb : PE X b (tM X.K cl W fb)) (hcc : PE X c (tM X.K cl W fc)) (hk : lastMarks [CmpOp.LtE, CmpOp.Lt] [b, c] = false := by with_unfolding_all rfl) : PE X (.Compare a [.LtE, .Lt] [b, c] pos) (tM X.K cl W (mChain oLe oLt fa fb fc)) := me_chain op_le o2_le calm_II op_lt o2_lt calm_II ha hb hcc hk
theorem mt_lelt (ha : PE X a (tM X.K cl W fa)) (hb : PE X b (tM X.K cl W fb)) (hcc : PE X c (tM X.K cl W fc)) (hk : lastMarks [CmpOp.LtE, CmpOp.Lt] [b, c] = false := by with_unfolding_all rfl) : PT X (.Compare a [.LtE, .Lt] [b, c] pos) (tMT X.K cl W (mTstB (mChain oLe oLt fa fb fc))) := mt_chain op_le o2_le calm_II op_lt o2_lt calm_II ha hb hcc hk

def mNil : MEs := fun _ st => .ok [] st
def mCons (f : ME) (g : MEs) : MEs := fun σ st => (f σ st).bind fun x st1 => (g σ st1).bind fun xs st2 => .ok (x :: xs) st2
theorem ma_nil : PA X [] (tMA X.K cl W mNil) := pa_nil.imp fun σ H Q ⟨ρ, st, σp, S, rs, h⟩ => Res.post.now S h _ .nil
theorem ma_cons {es : List Expr} {g : MEs} (ha : PE X a (tM X.K cl W fa)) (hr : PA X es (tMA X.K cl W g)) (hs : starEach (a :: es) X.env = (false, eval a X.env) :: starEach es X.env := by rfl) : PA X (a :: es) (tMA X.K cl W (mCons fa g)) :=
  (pa_cons ha hr hs).imp fun σ H Q ⟨ρ, st, σp, S, rs, h⟩ => by
    refine ⟨ρ, st, σp, S, rs, Res.post.imp (Res.post.bind h) (fun x st1 ρ1 H1 l1 e1 s1 h1 v rv => ?_) fun _ _ _ z => z⟩
    refine ⟨ρ1, st1, σp, s1, rs.mono l1 e1, Res.post.imp (Res.post.bind h1) (fun xs st2 ρ2 H2 l2 e2 s2 h2 vs rvs => ?_) fun _ _ _ z => z⟩
    exact Res.post.now s2 h2 _ (.cons (rv.mono l2 e2) rvs)
def mTup (g : MEs) : ME := fun σ st => (g σ st).bind fun xs st1 => if sz xs.length then .ok (.tup xs) st1 else .stuck
def mLst (g : MEs) : ME := fun σ st => (g σ st).bind fun xs st1 => if sz xs.length then mkNew (.lst xs) st1 else .stuck
theorem me_tup {es : List Expr} {g : MEs} {k} (h : PA X es (tMA X.K cl W g)) : PE X (.Tuple es k pos) (tM X.K cl W (mTup g)) := (pe_tup h).imp fun σ H Q ⟨ρ, st, σp, S, rs, h⟩ => by
  refine ⟨ρ, st, σp, S, rs, Res.post.imp (Res.post.bind h) (fun xs st1 ρ1 H1 l1 e1 s1 h1 vs rv => ?_) fun _ _ _ z => z⟩
  split at h1
  · next hz => exact ⟨by rw [← rv.length]; exact sz_ok hz, fun p hp => new_tup s1 hp rv h1⟩
  · exact h1.elim
theorem me_lst {es : List Expr} {g : MEs} (h : PA X es (tMA X.K cl W g)) : PE X (.List es pos) (tM X.K cl W (mLst g)) := (pe_lst h).imp fun σ H Q ⟨ρ, st, σp, S, rs, h⟩ => by
  refine ⟨ρ, st, σp, S, rs, Res.post.imp (Res.post.bind h) (fun xs st1 ρ1 H1 l1 e1 s1 h1 vs rv => ?_) fun _ _ _ z => z⟩
  split at h1
  · next hz => exact ⟨by rw [← rv.length]; exact sz_ok hz, fun p hp => new_lst s1 hp rv h1⟩
  · exact h1.elim
/-- {} -/
def mDict0 : ME := fun _ st => mkNew (.dct [] false) st
theorem me_dict0 : PE X (.Dict [] [] pos) (tM X.K cl W mDict0) := pe_dnewK.imp fun σ H Q ⟨ρ, st, σp, S, rs, h⟩ p hp =>
  post_ok_new (o := .dct [] false) (u := .dK []) S hp ⟨_, .inl ⟨[], rfl, .nil⟩, upd_same⟩ h _ rel_new
end
end MP
set_option Elab.async false
set_option linter.all false
set_option maxRecDepth 100000
set_option maxHeartbeats 2000000
namespace MP
open PySem PySem.Spec L2
theorem RelFs.look {K : PySem.W.Frag} {ρ : Rho} {H : Hp} {xs : List (Str × PV)} {vs : List (Str × V)} (h : RelFs K ρ H xs vs) {f : Str} {x : PV} (e : xs.lookup f = some x) : ∃ v, vs.lookup f = some v ∧ RelP K ρ H x v := by
  induction h with
  | nil => cases e
  | @cons g y v xs vs h t ih =>
    rw [List.lookup_cons] at e ⊢
    cases hb : (f == g) with
    | true => rw [hb] at e; cases e; exact ⟨v, rfl, h⟩
    | false => rw [hb] at e; exact ih e
theorem RelFs.miss {K : PySem.W.Frag} {ρ : Rho} {H : Hp} {xs : List (Str × PV)} {vs : List (Str × V)} (h : RelFs K ρ H xs vs) {f : Str} (e : ∀ p ∈ xs, p.1 ≠ f) : vs.lookup f = none := by
  induction h with
  | nil => rfl
  | @cons g y v xs vs h t ih =>
    rw [List.lookup_cons]
    have : (f == g) = false := beq_eq_false_iff_ne.mpr fun z => e (g, y) List.mem_cons_self z.symm
    rw [this]
    exact ih fun p hp => e p (List.mem_cons_of_mem _ hp)
theorem RelFs.length {K : PySem.W.Frag} {ρ : Rho} {H : Hp} {xs : List (Str × PV)} {vs : List (Str × V)} (h : RelFs K ρ H xs vs) : xs.length = vs.length := by
  induction h with
  | nil => rfl
  | cons _ _ ih => rw [List.length_cons, List.length_cons, ih]
/-- an attribute is set -/
def putP (f : Str) (v : PV) : List (Str × PV) → List (Str × PV)
  | [] => [(f, v)]
  | (g, x) :: r => if g = f then (g, v) :: r else (g, x) :: putP f v r
theorem RelFs.put {K : PySem.W.Frag} {ρ : Rho} {H : Hp} {xs : List (Str × PV)} {vs : List (Str × V)} (h : RelFs K ρ H xs vs) (f : Str) {x : PV} {v : V} (r : RelP K ρ H x v) : RelFs K ρ H (putP f x xs) (putF f v vs) := by
  induction h with
  | nil => exact .cons r .nil
  | @cons g y w xs vs h t ih =>
    unfold putP putF
    by_cases e : g = f
    · rw [if_pos e, if_pos e]; exact .cons r t
    · rw [if_neg e, if_neg e]; exact .cons h ih
theorem putP_fld {f : Str} {v : PV} {l : List Str} (hf : f ∈ l) : ∀ {xs : List (Str × PV)}, (∀ p ∈ xs, p.1 ∈ l) → ∀ p ∈ putP f v xs, p.1 ∈ l
  | [], _, p, hp => by
    rw [putP, List.mem_singleton] at hp
    subst hp
    exact hf
  | (g, x) :: r, h, p, hp => by
    unfold putP at hp
    by_cases e : g = f
    · rw [if_pos e] at hp
      rcases List.mem_cons.mp hp with rfl | hp
      · rw [show g = f from e]; exact hf
      · exact h p (List.mem_cons_of_mem _ hp)
    · rw [if_neg e] at hp
      rcases List.mem_cons.mp hp with rfl | hp
      · exact h _ List.mem_cons_self
      · exact putP_fld hf (fun q hq => h q (List.mem_cons_of_mem _ hq)) p hp
/-- an instance of the class c at a value -/
def insOf (c : Nat) (x : PV) (st : Sto) : Option (Nat × List (Str × PV)) := match x with
  | .ref n => match st.get n with
    | some (.ins c' fs) => if c' = c then some (n, fs) else none
    | _ => none
  | _ => none
section
variable {X : Cx} {cl : CT} {W : WX} {a b c o e : Expr} {fa fb fc fo : ME} {ga gb : MT} {pos pos' apos : Pos}
theorem insOf_at {K : PySem.W.Frag} {ρ : Rho} {st : Sto} {H : Hp} {c n : Nat} {x : PV} {v : V} {fs : List (Str × PV)} (S : Sim K cl ρ st H) (r : RelP K ρ H x v) (h : insOf c x st = some (n, fs)) :
    ∃ a dx vs, v = .ref a ∧ x = .ref n ∧ ρ n = some a ∧ H a = some (.ins (cl.ad c) dx vs) ∧ RelFs K ρ H fs vs ∧ (∀ p ∈ fs, p.1 ∈ cl.fld c) ∧ st.get n = some (.ins c fs) := by
  unfold insOf at h
  split at h
  · next m =>
    split at h
    · next c' gs e =>
      split at h
      · next hc =>
        cases h
        subst hc
        cases r with
        | ref hr =>
          obtain ⟨dx, vs, q, r, z⟩ := S.at_ hr e
          exact ⟨_, dx, vs, rfl, rfl, hr, q, r, z, e⟩
      · cases h
    · cases h
  · cases h
/-- e.f, e an instance of the class c -/
def mFld (c : Nat) (f : Str) (fa : ME) : ME := fun σ st => (fa σ st).bind fun x st1 => match insOf c x st1 with
  | some (_, fs) => match fs.lookup f with
    | some v => .ok v st1
    | none => .stuck
  | none => .stuck
theorem me_fld {c : Nat} {f : Str} (cC : Cls X.K (cl.ad c)) (na : NoAttr X.K (cl.ad c) f) (ha : PE X a (tM X.K cl W fa)) (hb : attributeBase a f X.env (eval a X.env) = eval a X.env := by rfl) : PE X (.Attribute a f pos) (tM X.K cl W (mFld c f fa)) :=
  (pe_fld ha hb).imp fun σ H Q ⟨ρ, st, σp, S, rs, h⟩ => by
    refine ⟨ρ, st, σp, S, rs, Res.post.imp (Res.post.bind h) (fun x st1 ρ1 H1 l1 e1 s1 h1 v rv => ?_) fun _ _ _ z => z⟩
    split at h1
    · next n fs e =>
      split at h1
      · next y ey =>
        obtain ⟨b, dx, vs, rfl, rfl, hr, hq, rf, _, _⟩ := insOf_at s1 rv e
        obtain ⟨w, hw, rw'⟩ := rf.look ey
        exact ⟨b, _, dx, vs, w, rfl, hq, cC, na, hw, Res.post.now s1 h1 _ rw'⟩
      · exact h1.elim
    · exact h1.elim

/-- the promise that is a pure function -/
def spM (K : PySem.W.Frag) (cl : CT) (n : Nat) (m : List PV → Sto → Res PV) : Sp := fun vs H Q E => ∃ ρ st args, Sim K cl ρ st H ∧ RelPs K ρ H args vs ∧ args.length = n ∧ (m args st).post K cl ρ H (Val K Q) E
theorem spM_len {K : PySem.W.Frag} {n : Nat} {m : List PV → Sto → Res PV} (vs : List V) (H : Hp) (Q : VK) (E : XK) (h : spM K cl n m vs H Q E) : vs.length = n := by
  obtain ⟨_, _, args, _, r, l, _⟩ := h
  rw [← r.length]; exact l
/-- a def's call, by values: us positional, ws by name -/
theorem run_any {σ : L2.St} {pins : List (Addr × Obj)} {H : Hp} {s : Shared} {Q : VK} {us ws : List Value} {vs zs : List V} {k n : Nat} {f : Addr} {fd : FuncData} {ps ks : List Str} {sp : Sp} {g : List Value → List Value → List Value} {gV : List V → List V → List V}
    (F : FnOk X.prog X.w X.K X.mg X.base (L2.CX X.prog X.w) k f fd ps sp) (hr : Room k X.A) (hb : KBn X.K fd ps n ks g gV) (tk : Takes X W) (I : Inv X pins σ H s) (r : Vals vs us) (rz : Vals zs ws) (l1 : vs.length = n) (l2 : zs.length = ks.length)
    (h : sp (gV vs zs) H Q (WE W σ)) : wpAny (model X.prog X.w) X.A (call (.ref f) us (ks.zip ws)) (EP X pins σ Q) X.xe s := by
  refine wpAny_call (codeAny_mono (F.run X.A X.stack s H ⟨us, ks.zip ws⟩ (g us ws) (gV vs zs) Q (WE W σ) hr I.env0 (hb.to s us ws I.kIn (r.length.symm.trans l1) (rz.length.symm.trans l2)) (hb.rel r rz) h) fun r s' hq => ?_)
  cases r with
  | error e => exact passAt tk σ pins H s e s' I hq
  | ok fl =>
    cases fl with
    | ret u => exact I.after hq
    | next => exact False.elim hq
    | brk => exact False.elim hq
    | cont => exact False.elim hq
theorem run_makeS {σ : L2.St} {pins : List (Addr × Obj)} {H : Hp} {s : Shared} {Q : VK} {us ws : List Value} {vs zs : List V} {k n : Nat} {f C : Addr} {fd : FuncData} {ps ks : List Str} {sp : Sp} {g : List Value → List Value → List Value} {gV : List V → List V → List V}
    (M : Mk X.K C f) (F : FnOk X.prog X.w X.K X.mg X.base (L2.CX X.prog X.w) k f fd ps sp) (hr : Room (k + 1) X.A) (hb : KBn X.K fd ps (n + 1) ks g gV) (tk : Takes X W)
    (I : Inv X pins σ H s) (r : Vals vs us) (rz : Vals zs ws) (l1 : vs.length = n) (l2 : zs.length = ks.length)
    (h : ∀ x dx, H x = none → H dx = none → dx ≠ x → sp (gV (.ref x :: vs) zs) (upd (upd H dx (.own x)) x (.ins C dx [])) (fun v H2 => v = .non ∧ Q (.ref x) H2) (WE W σ)) :
    wpAny (model X.prog X.w) X.A (call (.ref C) us (ks.zip ws)) (EP X pins σ Q) X.xe s := by
  have hq := h (s.heap.objs.size + 1) s.heap.objs.size (I.hok.fresh (Nat.le_succ _)) (I.hok.fresh (Nat.le_refl _)) (Nat.ne_of_lt (Nat.lt_succ_self _))
  have I2 := Inv.made (C := C) I
  have r1 : Vals (V.ref (s.heap.objs.size + 1) :: vs) (Value.ref (s.heap.objs.size + 1) :: us) := .cons rfl r
  have r2 := hb.rel r1 rz
  have n1 : (Value.ref (s.heap.objs.size + 1) :: us).length = n + 1 := by
    rw [List.length_cons, ← r.length, l1]
  refine wpAny_call (make_map (f := f) I.kIn M.makes M.init (beq_iff_eq.mp M.fn) (codeAny_mono (F.run _ X.stack _ _ ⟨Value.ref (s.heap.objs.size + 1) :: us, ks.zip ws⟩ (g (Value.ref (s.heap.objs.size + 1) :: us) ws) _ _ (WE W σ) (hr.make C us (ks.zip ws))
    (I2.env0.make C us (ks.zip ws)) (hb.to _ (Value.ref (s.heap.objs.size + 1) :: us) ws I2.kIn n1 (rz.length.symm.trans l2)) r2 hq) fun r s' hq' => ?_))
  cases r with
  | error e => exact passAt tk σ pins _ _ e s' I2 hq'
  | ok fl =>
    cases fl with
    | ret u =>
      obtain ⟨v, H', I3, rv, ev, q3⟩ := I2.after hq'
      subst ev
      exact ⟨rv, ⟨V.ref (s.heap.objs.size + 1), H', I3, rfl, q3⟩⟩
    | next => exact False.elim hq'
    | brk => exact False.elim hq'
    | cont => exact False.elim hq'
/-- how the pure arguments are put in order: positional ones and those by name, with the defaults -/
structure KBp (K : PySem.W.Frag) (cl : CT) (fd : FuncData) (ps : List Str) (n : Nat) (ks : List Str) (gP : List PV → List PV → List PV) : Prop where
  ex : ∃ g gV, KBn K fd ps n ks g gV ∧ ∀ ρ H xs vs ys zs, xs.length = n → ys.length = ks.length → RelPs K ρ H xs vs → RelPs K ρ H ys zs → RelPs K ρ H (gP xs ys) (gV vs zs) ∧ (gP xs ys).length = ps.length
theorem KBp.plain {K : PySem.W.Frag} {fd : FuncData} {ps : List Str} (hb : Binds K fd ps []) : KBp K cl fd ps ps.length [] (fun xs _ => xs) := by
  refine ⟨fun us _ => us, fun vs _ => vs, ⟨fun s us ws X l1 l2 => ?_, fun r _ => r⟩, fun ρ H xs vs ys zs h1 _ h2 _ => ⟨h2, h1⟩⟩
  have b := hb s us X (by rw [List.append_nil]; exact l1)
  rw [List.append_nil] at b
  exact b
theorem KBp.dflt {K : PySem.W.Frag} {fd : FuncData} {ps : List Str} {ds : List Value} {dvs : List V} {dps : List PV} {n : Nat} (hb : Binds K fd ps ds) (hd : Vals dvs ds) (hp : ∀ ρ H, RelPs K ρ H dps dvs) (hn : n + dps.length = ps.length) : KBp K cl fd ps n [] (fun xs _ => xs ++ dps) := by
  refine ⟨fun us _ => us ++ ds, fun vs _ => vs ++ dvs, ⟨fun s us ws X l1 l2 => ?_, fun r _ => r.append hd⟩, fun ρ H xs vs ys zs h1 _ h2 _ => ⟨h2.append (hp ρ H), by rw [List.length_append, h1, hn]⟩⟩
  refine hb s us X ?_
  have e1 := hd.length
  have e2 := (hp (fun _ => none) (fun _ => none)).length
  rw [List.length_append]
  omega
/-- f(e, ..) -/
def mCall (m : List PV → Sto → Res PV) (gP : List PV → List PV → List PV) (g : MEs) : ME := fun σ st => (g σ st).bind fun xs st1 => m (gP xs []) st1
/-- the number of arguments of a written list -/
def Len (g : MEs) (n : Nat) : Prop := ∀ σ st xs st', g σ st = .ok xs st' → xs.length = n
theorem len_nil : Len mNil 0 := fun σ st xs st' h => by cases h; rfl
theorem len_cons {f : ME} {g : MEs} {n : Nat} (h : Len g n) : Len (mCons f g) (n + 1) := fun σ st xs st' e => by
  unfold mCons at e
  cases q : f σ st with
  | ok x s1 =>
    rw [q] at e
    dsimp only [Res.bind] at e
    cases q2 : g σ s1 with
    | ok ys s2 =>
      rw [q2] at e
      cases e
      rw [List.length_cons, h σ s1 ys _ q2]
    | err _ _ => rw [q2] at e; cases e
    | stuck => rw [q2] at e; cases e
  | err _ _ => rw [q] at e; cases e
  | stuck => rw [q] at e; cases e
abbrev BehA (X : Cx) (cl : CT) (W : WX) (σp : Sl) (σ : L2.St) (k : List PV → Sto → Rho → Hp → Prop) : List V → Hp → Prop := fun vs H1 => ∃ ρ1 st1 xs, Sim X.K cl ρ1 st1 H1 ∧ RelS X.K ρ1 H1 σp σ ∧ RelPs X.K ρ1 H1 xs vs ∧ k xs st1 ρ1 H1
theorem tMA.beh {σp : Sl} {σ : L2.St} {H : Hp} {ρ : Rho} {st : Sto} {f : MEs} {k : List PV → Sto → Rho → Hp → Prop} (S : Sim X.K cl ρ st H) (rs : RelS X.K ρ H σp σ) (h : (f σp st).post X.K cl ρ H k fun C d H' => W C d σ H') : tMA X.K cl W f σ H (BehA X cl W σp σ k) :=
  ⟨ρ, st, σp, S, rs, Res.post.imp h (fun x st1 ρ1 H1 l1 e1 s1 h1 v rv => ⟨ρ1, st1, x, s1, rs.mono l1 e1, rv, h1⟩) fun _ _ _ z => z⟩
/-- with the arguments' number -/
theorem post_len {K : PySem.W.Frag} {ρ : Rho} {H : Hp} {g : MEs} {n : Nat} {σp : Sl} {st : Sto} {P : List PV → Sto → Rho → Hp → Prop} {E : Value → Option Addr → Hp → Prop} (hl : Len g n) (h : (g σp st).post K cl ρ H P E) : (g σp st).post K cl ρ H (fun xs st' ρ' H' => xs.length = n ∧ P xs st' ρ' H') E := by
  have l := hl σp st
  cases q : g σp st with
  | ok xs s1 => rw [q] at h; exact fun ρ' H' l1 e1 z1 => ⟨l _ _ q, h ρ' H' l1 e1 z1⟩
  | err _ _ => rw [q] at h; exact h
  | stuck => rw [q] at h; exact h
variable {k n : Nat} {f : Addr} {fd : FuncData} {ps ks : List Str} {m : List PV → Sto → Res PV} {gP : List PV → List PV → List PV} {x : Str} {p : Pos} {es : List Expr} {g : MEs}
theorem me_call (F : FnOk X.prog X.w X.K X.mg X.base (L2.CX X.prog X.w) k f fd ps (spM X.K cl ps.length m)) (hr : Room k X.A) (hg : Gl X x) (hm : X.mg x = some (.ref f)) (hk : PySem.W.keepIn X.K (.ref f) = true) (hb : KBp X.K cl fd ps n [] gP) (tk : Takes X W)
    (ha : PA X (e :: es) (tMA X.K cl W g)) (hl : Len g n) (hdb : (x == ("__debug__" : Str)) = false := by decide) (he : starEach (e :: es) X.env = (false, eval e X.env) :: starEach es X.env := by rfl) (hpl : (backTo pos (starEach es X.env)).any (·.1) = false := by rfl) :
    PE X (.Call (.Name x p) (e :: es) [] pos) (tM X.K cl W (mCall m gP g)) := by
  refine ⟨fun pins s σ H Q I ⟨ρ, st, σp, S, rs, h⟩ => ?_⟩
  obtain ⟨gg, gV, hb, hG⟩ := hb.ex
  refine wpAny_Call_Name_kw (ld_glob I hg hm ?_ hdb)
  refine PySem.W.callWith_K (h₀ := X.base) I.ok.mod.kin hk (thn (ha.run pos pins s σ H _ I (tMA.beh S rs (post_len hl (Res.post.bind h)))) fun us s1 ⟨vs, H1, I1, r, ρ1, st1, xs, S1, rs1, rx, ln, h1⟩ => ⟨I1.kIn, ?_⟩) he hpl
  obtain ⟨q1, q2⟩ := hG ρ1 H1 xs vs [] [] ln rfl rx .nil
  exact run_any (zs := []) (ws := []) (ks := []) F hr hb tk I1 r .nil (rx.length.symm.trans ln) rfl ⟨ρ1, st1, _, S1, q1, q2, h1⟩
/-- o.m(e, ..), o an instance of the class c -/
def mMeth (c : Nat) (m : List PV → Sto → Res PV) (gP : List PV → List PV → List PV) (fo : ME) (g : MEs) : ME := fun σ st => (fo σ st).bind fun x st1 => match insOf c x st1 with
  | some _ => (g σ st1).bind fun xs st2 => m (gP (x :: xs) []) st2
  | none => .stuck
theorem me_meth {c : Nat} {mn : Str} {pl : Sem Bool} (ho : PE X o (tM X.K cl W fo)) (cC : Cls X.K (cl.ad c)) (hm : Meth X.K (cl.ad c) mn f) (nf : ∀ z ∈ cl.fld c, z ≠ mn) (F : FnOk X.prog X.w X.K X.mg X.base (L2.CX X.prog X.w) k f fd ps (spM X.K cl ps.length m)) (hr : Room k X.A)
    (hb : KBp X.K cl fd ps (n + 1) [] gP) (tk : Takes X W) (ha : PA X (e :: es) (tMA X.K cl W g)) (hl : Len g n)
    (hst : starEach (e :: es) X.env = (false, eval e X.env) :: starEach es X.env := by rfl) (hpl : (backTo pos (starEach es X.env)).any (·.1) = false := by rfl)
    (ht : eval (.Call (.Attribute o mn apos) (e :: es) [] pos) X.env = (do
      let ov ← eval o X.env
      standAt apos.atName
      let (f, first) ← holding [ov] (getMethod ov mn pl)
      callWith pos f first (backTo pos (starEach (e :: es) X.env)) (backToKw pos (keywordEach [] X.env))) := by rfl) :
    PE X (.Call (.Attribute o mn apos) (e :: es) [] pos) (tM X.K cl W (mMeth c m gP fo g)) := by
  refine ⟨fun pins s σ H Q I ⟨ρ, st, σp, S, rs, h⟩ => ?_⟩
  obtain ⟨gg, gV, hb, hG⟩ := hb.ex
  refine PySem.W.methodCall_KW (pl := pl) (thn (ho.run pins s σ H _ I (tM.beh S rs (Res.post.bind h))) fun u s1 ⟨v, H1, I1, r1, ρ1, st1, x, S1, rs1, rx, h1⟩ => ?_) ht
  dsimp only at h1
  split at h1
  · next q eq =>
    obtain ⟨q1, q2⟩ := q
    obtain ⟨b, dx, vs, rfl, rfl, hr', hq, rf, hfl, hget⟩ := insOf_at S1 rx eq
    obtain rfl : u = Value.ref b := r1
    refine getmeth_ok I1 hq cC hm (rf.miss fun p hp => nf _ (hfl p hp)) ?_
    refine PySem.W.callWith_K (first := [.ref b]) (h₀ := X.base) I.ok.mod.kin hm.kp (thn (ha.run pos pins s1 σ H1 _ I1 (tMA.beh S1 rs1 (Res.post.imp (post_len hl (Res.post.bind h1)) (fun xs st2 ρ2 H2 l2 e2 s2 h2 => (⟨rx.mono l2 e2, h2⟩ : RelP X.K ρ2 H2 (.ref q1) (.ref b) ∧ _)) fun _ _ _ z => z))) fun us s2 ⟨ws, H2, I2, r2, ρ2, st2, xs, S2, rs2, rxs, rx2, ln, h2⟩ => ⟨I2.kIn, ?_⟩) hst hpl
    obtain ⟨q3, q4⟩ := hG ρ2 H2 (.ref q1 :: xs) (.ref b :: ws) [] [] (by rw [List.length_cons, ln]) rfl (.cons rx2 rxs) .nil
    exact run_any (us := .ref b :: us) (vs := .ref b :: ws) (zs := []) (ws := []) (ks := []) F hr hb tk I2 (.cons rfl r2) .nil (by rw [List.length_cons, ← rxs.length, ln]) rfl ⟨ρ2, st2, _, S2, q3, q4, h2⟩
  · exact h1.elim
theorem me_meth0 {c : Nat} {mn : Str} {pl : Sem Bool} (ho : PE X o (tM X.K cl W fo)) (cC : Cls X.K (cl.ad c)) (hm : Meth X.K (cl.ad c) mn f) (nf : ∀ z ∈ cl.fld c, z ≠ mn) (F : FnOk X.prog X.w X.K X.mg X.base (L2.CX X.prog X.w) k f fd ps (spM X.K cl ps.length m)) (hr : Room k X.A)
    (hb : KBp X.K cl fd ps 1 [] gP) (tk : Takes X W)
    (ht : eval (.Call (.Attribute o mn apos) [] [] pos) X.env = (do
      let ov ← eval o X.env
      standAt apos.atName
      let (f, first) ← holding [ov] (getMethod ov mn pl)
      callWith pos f first (backTo pos (starEach [] X.env)) (backToKw pos (keywordEach [] X.env))) := by rfl) :
    PE X (.Call (.Attribute o mn apos) [] [] pos) (tM X.K cl W (mMeth c m gP fo mNil)) := by
  refine ⟨fun pins s σ H Q I ⟨ρ, st, σp, S, rs, h⟩ => ?_⟩
  obtain ⟨gg, gV, hb, hG⟩ := hb.ex
  refine PySem.W.methodCall_KW (pl := pl) (thn (ho.run pins s σ H _ I (tM.beh S rs (Res.post.bind h))) fun u s1 ⟨v, H1, I1, r1, ρ1, st1, x, S1, rs1, rx, h1⟩ => ?_) ht
  dsimp only at h1
  split at h1
  · next q eq =>
    obtain ⟨q1, q2⟩ := q
    obtain ⟨b, dx, vs, rfl, rfl, hr', hq, rf, hfl, hget⟩ := insOf_at S1 rx eq
    obtain rfl : u = Value.ref b := r1
    refine getmeth_ok I1 hq cC hm (rf.miss fun p hp => nf _ (hfl p hp)) ?_
    obtain ⟨q3, q4⟩ := hG ρ1 H1 [.ref q1] [.ref b] [] [] rfl rfl (.cons rx .nil) .nil
    exact PySem.W.callWith_K0 (first := [.ref b]) I1.kIn hm.kp (run_any (us := [.ref b]) (vs := [.ref b]) (zs := []) (ws := []) (ks := []) F hr hb tk I1 (.cons rfl .nil) .nil rfl rfl ⟨ρ1, st1, _, S1, q3, q4, h1⟩)
  · exact h1.elim
end
end MP
set_option Elab.async false
set_option linter.all false
set_option maxRecDepth 100000
set_option maxHeartbeats 2000000
namespace MP
open PySem PySem.Spec L2
section
variable {X : Cx} {cl : CT} {W : WX} {a b c o e : Expr} {fa fb fc fo fe : ME} {ga gb : MT} {pos pos' apos p : Pos}
def mMake (c : Nat) (m : List PV → Sto → Res PV) (gP : List PV → List PV → List PV) (g gk : MEs) : ME := fun σ st => (g σ st).bind fun xs st1 => (gk σ st1).bind fun ys st2 =>
  (m (gP (.ref st2.nx :: xs) ys) (st2.add (.ins c []))).bind fun r st3 => match r with
    | .non => .ok (.ref st2.nx) st3
    | _ => .stuck
theorem make_post {σ : L2.St} {H : Hp} {ρ : Rho} {st : Sto} {Q : VK} {c : Nat} {m : List PV → Sto → Res PV} {args : List PV} {x dx : Addr} (S : Sim X.K cl ρ st H) (hx : H x = none) (hd : H dx = none) (ne : dx ≠ x)
    (h : ((m args (st.add (.ins c []))).bind fun r st3 => match r with | .non => Res.ok (PV.ref st.nx) st3 | _ => .stuck).post X.K cl ρ H (Val X.K Q) fun C d H' => W C d σ H') :
    Sim X.K cl (ρ.put st.nx x) (st.add (.ins c [])) (upd (upd H dx (.own x)) x (.ins (cl.ad c) dx [])) ∧ Le ρ (ρ.put st.nx x) ∧ Ext X.K H (upd (upd H dx (.own x)) x (.ins (cl.ad c) dx [])) ∧
      (m args (st.add (.ins c []))).post X.K cl (ρ.put st.nx x) (upd (upd H dx (.own x)) x (.ins (cl.ad c) dx [])) (Val X.K fun v H2 => v = .non ∧ Q (.ref x) H2) (WE W σ) := by
  have hx2 : upd H dx (.own x) x = none := by rw [upd_ne (Ne.symm ne)]; exact hx
  have e1 : Ext X.K H (upd (upd H dx (.own x)) x (.ins (cl.ad c) dx [])) := (Ext.new hd).trans (Ext.new hx2)
  have S2 : Sim X.K cl (ρ.put st.nx x) (st.add (.ins c [])) (upd (upd H dx (.own x)) x (.ins (cl.ad c) dx [])) := (sim_up S hd).new hx2 ⟨dx, [], upd_same, .nil, fun p hp => absurd hp (by simp)⟩
  refine ⟨S2, S.le_put x, e1, Res.post.imp (Res.post.bind (Res.post.mono h (S.le_put x) e1)) (fun r st3 ρ3 H3 l3 e3 s3 h3 u ru => ?_) fun _ _ _ z => z⟩
  split at h3
  · cases ru
    exact ⟨rfl, Res.post.now s3 h3 _ (.ref (l3 _ _ Rho.put_same))⟩
  · exact h3.elim
def mKNil : MEs := mNil
/-- the values by name -/
theorem mk_nil : PK X [] (tMA X.K cl W mNil) := ⟨fun pos pins s σ H Q I ⟨ρ, st, σp, S, rs, h⟩ => pk_nil.run pos pins s σ H Q I (Res.post.now S h _ .nil)⟩
theorem mk_cons {kws : List Keyword} {g : MEs} {nm : Option Str} {kpos : Pos} (ha : PE X e (tM X.K cl W fe)) (hr : PK X kws (tMA X.K cl W g)) : PK X (⟨nm, e, kpos⟩ :: kws) (tMA X.K cl W (mCons fe g)) :=
  ⟨fun pos pins s σ H Q I ⟨ρ, st, σp, S, rs, h⟩ => (pk_cons ha hr).run pos pins s σ H Q I (by
    refine ⟨ρ, st, σp, S, rs, Res.post.imp (Res.post.bind h) (fun x st1 ρ1 H1 l1 e1 s1 h1 v rv => ?_) fun _ _ _ z => z⟩
    refine ⟨ρ1, st1, σp, s1, rs.mono l1 e1, Res.post.imp (Res.post.bind h1) (fun xs st2 ρ2 H2 l2 e2 s2 h2 vs rvs => ?_) fun _ _ _ z => z⟩
    exact Res.post.now s2 h2 _ (.cons (rv.mono l2 e2) rvs))⟩
variable {k n : Nat} {f : Addr} {fd : FuncData} {ps ks : List Str} {m : List PV → Sto → Res PV} {gP : List PV → List PV → List PV} {x : Str} {es : List Expr} {g gk : MEs} {kws : List Keyword}
theorem me_make {c : Nat} (M : Mk X.K (cl.ad c) f) (F : FnOk X.prog X.w X.K X.mg X.base (L2.CX X.prog X.w) k f fd ps (spM X.K cl ps.length m)) (hr : Room (k + 1) X.A) (hg : Gl X x) (hm : X.mg x = some (.ref (cl.ad c))) (hb : KBp X.K cl fd ps (n + 1) [] gP) (tk : Takes X W)
    (ha : PA X (e :: es) (tMA X.K cl W g)) (hl : Len g n) (hdb : (x == ("__debug__" : Str)) = false := by decide) (he : starEach (e :: es) X.env = (false, eval e X.env) :: starEach es X.env := by rfl) (hpl : (backTo pos (starEach es X.env)).any (·.1) = false := by rfl) :
    PE X (.Call (.Name x p) (e :: es) [] pos) (tM X.K cl W (mMake c m gP g mNil)) := by
  refine ⟨fun pins s σ H Q I ⟨ρ, st, σp, S, rs, h⟩ => ?_⟩
  obtain ⟨gg, gV, hb, hG⟩ := hb.ex
  refine wpAny_Call_Name_kw (ld_glob I hg hm ?_ hdb)
  refine PySem.W.callWith_K (h₀ := X.base) I.ok.mod.kin M.kp (thn (ha.run pos pins s σ H _ I (tMA.beh S rs (post_len hl (Res.post.bind h)))) fun us s1 ⟨vs, H1, I1, r, ρ1, st1, xs, S1, rs1, rx, ln, h1⟩ => ⟨I1.kIn, ?_⟩) he hpl
  refine run_makeS (zs := []) (ws := []) (ks := []) M F hr hb tk I1 r .nil (rx.length.symm.trans ln) rfl fun x dx hx hd ne => ?_
  obtain ⟨S2, l2, e2, h2⟩ := make_post S1 hx hd ne (show ((m (gP (.ref st1.nx :: xs) []) (st1.add (.ins c []))).bind _).post X.K cl ρ1 H1 _ _ from h1)
  obtain ⟨q1, q2⟩ := hG (ρ1.put st1.nx x) _ (.ref st1.nx :: xs) (.ref x :: vs) [] [] (by rw [List.length_cons, ln]) rfl (.cons (.ref Rho.put_same) (rx.mono l2 e2)) .nil
  exact ⟨_, _, _, S2, q1, q2, h2⟩
theorem me_make0 {c : Nat} (M : Mk X.K (cl.ad c) f) (F : FnOk X.prog X.w X.K X.mg X.base (L2.CX X.prog X.w) k f fd ps (spM X.K cl ps.length m)) (hr : Room (k + 1) X.A) (hg : Gl X x) (hm : X.mg x = some (.ref (cl.ad c))) (hb : KBp X.K cl fd ps 1 [] gP) (tk : Takes X W)
    (hdb : (x == ("__debug__" : Str)) = false := by decide) : PE X (.Call (.Name x p) [] [] pos) (tM X.K cl W (mMake c m gP mNil mNil)) := by
  refine ⟨fun pins s σ H Q I ⟨ρ, st, σp, S, rs, h⟩ => ?_⟩
  obtain ⟨gg, gV, hb, hG⟩ := hb.ex
  refine wpAny_Call_Name_kw (ld_glob I hg hm ?_ hdb)
  refine PySem.W.callWith_K0 (first := []) I.kIn M.kp ?_
  refine run_makeS (us := []) (vs := []) (zs := []) (ws := []) (ks := []) M F hr hb tk I .nil .nil rfl rfl fun x dx hx hd ne => ?_
  obtain ⟨S2, l2, e2, h2⟩ := make_post S hx hd ne (show ((m (gP (.ref st.nx :: []) []) (st.add (.ins c []))).bind _).post X.K cl ρ H _ _ from h)
  obtain ⟨q1, q2⟩ := hG (ρ.put st.nx x) _ [.ref st.nx] [.ref x] [] [] rfl rfl (.cons (.ref Rho.put_same) .nil) .nil
  exact ⟨_, _, _, S2, q1, q2, h2⟩
theorem me_makeK0 {c : Nat} (M : Mk X.K (cl.ad c) f) (F : FnOk X.prog X.w X.K X.mg X.base (L2.CX X.prog X.w) k f fd ps (spM X.K cl ps.length m)) (hr : Room (k + 1) X.A) (hg : Gl X x) (hm : X.mg x = some (.ref (cl.ad c))) (hb : KBp X.K cl fd ps 1 ks gP) (tk : Takes X W)
    (hkw : PK X kws (tMA X.K cl W gk)) (hlk : Len gk ks.length)
    (hall : (backToKw pos (keywordEach kws X.env)).all (·.1.isSome) = true := by rfl) (hks : (backToKw pos (keywordEach kws X.env)).filterMap (·.1) = ks := by rfl) (hdb : (x == ("__debug__" : Str)) = false := by decide)
    (hpl : ((backTo pos (starEach [] X.env)).any (·.1) || (backToKw pos (keywordEach kws X.env)).any (·.1.isNone)) = false := by rfl) :
    PE X (.Call (.Name x p) [] kws pos) (tM X.K cl W (mMake c m gP mNil gk)) := by
  refine ⟨fun pins s σ H Q I ⟨ρ, st, σp, S, rs, h⟩ => ?_⟩
  obtain ⟨gg, gV, hb, hG⟩ := hb.ex
  refine wpAny_Call_Name_kw (ld_glob I hg hm ?_ hdb)
  refine PySem.W.callWith_KW0 (h₀ := X.base) I.ok.mod.kin M.kp hall ?_ hpl
  refine thn (hkw.run pos pins s σ H _ I (tMA.beh S rs (post_len hlk (Res.post.bind (show ((gk σp st).bind fun ys st2 => (m (gP (.ref st2.nx :: []) ys) (st2.add (.ins c []))).bind _).post X.K cl ρ H _ _ from h))))) fun ws s2 ⟨zs, H2, I2, rz, ρ2, st2, ys, S2, rs2, ry, ln, h2⟩ => ⟨I2.kIn, ?_⟩
  rw [hks]
  refine run_makeS (us := []) (vs := []) M F hr hb tk I2 .nil rz rfl (ry.length.symm.trans ln) fun x dx hx hd ne => ?_
  obtain ⟨S3, l3, e3, h3⟩ := make_post S2 hx hd ne h2
  obtain ⟨q1, q2⟩ := hG (ρ2.put st2.nx x) _ [.ref st2.nx] [.ref x] ys zs rfl ln (.cons (.ref Rho.put_same) .nil) (ry.mono l3 e3)
  exact ⟨_, _, _, S3, q1, q2, h3⟩
theorem me_makeK {c : Nat} (M : Mk X.K (cl.ad c) f) (F : FnOk X.prog X.w X.K X.mg X.base (L2.CX X.prog X.w) k f fd ps (spM X.K cl ps.length m)) (hr : Room (k + 1) X.A) (hg : Gl X x) (hm : X.mg x = some (.ref (cl.ad c))) (hb : KBp X.K cl fd ps (n + 1) ks gP) (tk : Takes X W)
    (ha : PA X (e :: es) (tMA X.K cl W g)) (hl : Len g n) (hkw : PK X kws (tMA X.K cl W gk)) (hlk : Len gk ks.length)
    (hall : (backToKw pos (keywordEach kws X.env)).all (·.1.isSome) = true := by rfl) (hks : (backToKw pos (keywordEach kws X.env)).filterMap (·.1) = ks := by rfl) (hdb : (x == ("__debug__" : Str)) = false := by decide)
    (he : starEach (e :: es) X.env = (false, eval e X.env) :: starEach es X.env := by rfl) (hpl : ((backTo pos (starEach (e :: es) X.env)).any (·.1) || (backToKw pos (keywordEach kws X.env)).any (·.1.isNone)) = false := by rfl) :
    PE X (.Call (.Name x p) (e :: es) kws pos) (tM X.K cl W (mMake c m gP g gk)) := by
  refine ⟨fun pins s σ H Q I ⟨ρ, st, σp, S, rs, h⟩ => ?_⟩
  obtain ⟨gg, gV, hb, hG⟩ := hb.ex
  refine wpAny_Call_Name_kw (ld_glob I hg hm ?_ hdb)
  refine PySem.W.callWith_KW (h₀ := X.base) I.ok.mod.kin M.kp hall (thn (ha.run pos pins s σ H _ I (tMA.beh S rs (post_len hl (Res.post.bind h)))) fun us s1 ⟨vs, H1, I1, r, ρ1, st1, xs, S1, rs1, rx, ln, h1⟩ => ?_) hpl he
  refine thn (hkw.run pos pins s1 σ H1 _ I1 (tMA.beh S1 rs1 (Res.post.imp (post_len hlk (Res.post.bind h1)) (fun ys st2 ρ2 H2 l2 e2 s2 h2 => (⟨rx.mono l2 e2, h2⟩ : RelPs X.K ρ2 H2 xs vs ∧ _)) fun _ _ _ z => z))) fun ws s2 ⟨zs, H2, I2, rz, ρ2, st2, ys, S2, rs2, ry, rx2, lnk, h2⟩ => ⟨I2.kIn, ?_⟩
  rw [hks]
  refine run_makeS M F hr hb tk I2 r rz (rx.length.symm.trans ln) (ry.length.symm.trans lnk) fun x dx hx hd ne => ?_
  obtain ⟨S3, l3, e3, h3⟩ := make_post S2 hx hd ne h2
  obtain ⟨q1, q2⟩ := hG (ρ2.put st2.nx x) _ (.ref st2.nx :: xs) (.ref x :: vs) ys zs (by rw [List.length_cons, ln]) lnk (.cons (.ref Rho.put_same) (rx2.mono l3 e3)) (ry.mono l3 e3)
  exact ⟨_, _, _, S3, q1, q2, h3⟩
/-- f(e, .., k = v, ..) -/
def mCallK (m : List PV → Sto → Res PV) (gP : List PV → List PV → List PV) (g gk : MEs) : ME := fun σ st => (g σ st).bind fun xs st1 => (gk σ st1).bind fun ys st2 => m (gP xs ys) st2
theorem me_callK (F : FnOk X.prog X.w X.K X.mg X.base (L2.CX X.prog X.w) k f fd ps (spM X.K cl ps.length m)) (hr : Room k X.A) (hg : Gl X x) (hm : X.mg x = some (.ref f)) (hk : PySem.W.keepIn X.K (.ref f) = true) (hb : KBp X.K cl fd ps n ks gP) (tk : Takes X W)
    (ha : PA X (e :: es) (tMA X.K cl W g)) (hl : Len g n) (hkw : PK X kws (tMA X.K cl W gk)) (hlk : Len gk ks.length)
    (hall : (backToKw pos (keywordEach kws X.env)).all (·.1.isSome) = true := by rfl) (hks : (backToKw pos (keywordEach kws X.env)).filterMap (·.1) = ks := by rfl) (hdb : (x == ("__debug__" : Str)) = false := by decide)
    (he : starEach (e :: es) X.env = (false, eval e X.env) :: starEach es X.env := by rfl) (hpl : ((backTo pos (starEach (e :: es) X.env)).any (·.1) || (backToKw pos (keywordEach kws X.env)).any (·.1.isNone)) = false := by rfl) :
    PE X (.Call (.Name x p) (e :: es) kws pos) (tM X.K cl W (mCallK m gP g gk)) := by
  refine ⟨fun pins s σ H Q I ⟨ρ, st, σp, S, rs, h⟩ => ?_⟩
  obtain ⟨gg, gV, hb, hG⟩ := hb.ex
  refine wpAny_Call_Name_kw (ld_glob I hg hm ?_ hdb)
  refine PySem.W.callWith_KW (h₀ := X.base) I.ok.mod.kin hk hall (thn (ha.run pos pins s σ H _ I (tMA.beh S rs (post_len hl (Res.post.bind h)))) fun us s1 ⟨vs, H1, I1, r, ρ1, st1, xs, S1, rs1, rx, ln, h1⟩ => ?_) hpl he
  refine thn (hkw.run pos pins s1 σ H1 _ I1 (tMA.beh S1 rs1 (Res.post.imp (post_len hlk (Res.post.bind h1)) (fun ys st2 ρ2 H2 l2 e2 s2 h2 => (⟨rx.mono l2 e2, h2⟩ : RelPs X.K ρ2 H2 xs vs ∧ _)) fun _ _ _ z => z))) fun ws s2 ⟨zs, H2, I2, rz, ρ2, st2, ys, S2, rs2, ry, rx2, lnk, h2⟩ => ⟨I2.kIn, ?_⟩
  rw [hks]
  obtain ⟨q1, q2⟩ := hG ρ2 H2 xs vs ys zs ln lnk rx2 ry
  exact run_any F hr hb tk I2 r rz (rx.length.symm.trans ln) (ry.length.symm.trans lnk) ⟨ρ2, st2, _, S2, q1, q2, h2⟩
end

inductive ResS where
  | nx (σ : Sl) (s : Sto)
  | rt (v : PV) (s : Sto)
  | bk (σ : Sl) (s : Sto)
  | ct (σ : Sl) (s : Sto)
  | err (e : Exn) (σ : Sl) (s : Sto)
  | stuck
abbrev MS := Sl → Sto → ResS
def ResS.post (K : PySem.W.Frag) (cl : CT) (ρ : Rho) (H : Hp) (r : ResS) (D : Ends) (W : WX) : Prop := match r with
  | .nx σp st => ∀ ρ' H' σ', Le ρ ρ' → Ext K H H' → Sim K cl ρ' st H' → RelS K ρ' H' σp σ' → D.nx σ' H'
  | .rt v st => ∀ ρ' H' w, Le ρ ρ' → Ext K H H' → Sim K cl ρ' st H' → RelP K ρ' H' v w → D.rt w H'
  | .bk σp st => ∀ ρ' H' σ', Le ρ ρ' → Ext K H H' → Sim K cl ρ' st H' → RelS K ρ' H' σp σ' → D.bk σ' H'
  | .ct σp st => ∀ ρ' H' σ', Le ρ ρ' → Ext K H H' → Sim K cl ρ' st H' → RelS K ρ' H' σp σ' → D.ct σ' H'
  | .err e σp st => ∀ ρ' H' C d σ', Le ρ ρ' → Ext K H H' → Sim K cl ρ' st H' → RelS K ρ' H' σp σ' → ExnRel K cl ρ' H' e C d → W C d σ' H'
  | .stuck => False
def tMS (K : PySem.W.Frag) (cl : CT) (W : WX) (f : MS) : TS := fun D σ H => ∃ ρ st σp, Sim K cl ρ st H ∧ RelS K ρ H σp σ ∧ (f σp st).post K cl ρ H D W
theorem ResS.post.mono {K : PySem.W.Frag} {cl : CT} {ρ ρ' : Rho} {H H' : Hp} {r : ResS} {D : Ends} {W : WX} (h : r.post K cl ρ H D W) (l : Le ρ ρ') (e : Ext K H H') : r.post K cl ρ' H' D W := by
  cases r with
  | nx σp st => exact fun ρ2 H2 σ2 l2 e2 s2 r2 => h ρ2 H2 σ2 (l.trans l2) (e.trans e2) s2 r2
  | rt v st => exact fun ρ2 H2 σ2 l2 e2 s2 r2 => h ρ2 H2 σ2 (l.trans l2) (e.trans e2) s2 r2
  | bk σp st => exact fun ρ2 H2 σ2 l2 e2 s2 r2 => h ρ2 H2 σ2 (l.trans l2) (e.trans e2) s2 r2
  | ct σp st => exact fun ρ2 H2 σ2 l2 e2 s2 r2 => h ρ2 H2 σ2 (l.trans l2) (e.trans e2) s2 r2
  | err x σp st => exact fun ρ2 H2 C d σ2 l2 e2 s2 r2 x2 => h ρ2 H2 C d σ2 (l.trans l2) (e.trans e2) s2 r2 x2
  | stuck => exact h
/-- an expression's result on the way to a statement's -/
def Res.toS {α : Type} (r : Res α) (σ : Sl) (k : α → Sto → ResS) : ResS := match r with
  | .ok a s => k a s
  | .err e s => .err e σ s
  | .stuck => .stuck
theorem toS_post {α : Type} {K : PySem.W.Frag} {cl : CT} {ρ : Rho} {H : Hp} {r : Res α} {σp : Sl} {σ : L2.St} {k : α → Sto → ResS} {D : Ends} {W : WX} (rs : RelS K ρ H σp σ) (h : (r.toS σp k).post K cl ρ H D W) :
    r.post K cl ρ H (fun a st' ρ' H' => (k a st').post K cl ρ' H' D W) fun C d H' => W C d σ H' := by
  cases r with
  | ok a s => exact fun ρ2 H2 l2 e2 s2 => ResS.post.mono h l2 e2
  | err e s => exact fun ρ2 H2 C d l2 e2 s2 x2 => h ρ2 H2 C d σ l2 e2 s2 (rs.mono l2 e2) x2
  | stuck => exact h
def ResS.seq (r : ResS) (k : MS) : ResS := match r with
  | .nx σ s => k σ s
  | r => r
section
variable {X : Cx} {cl : CT} {W : WX} {a b c o e : Expr} {fa fb fc fo fe : ME} {ga gb : MT} {pos pos' apos p : Pos} {st0 : Stmt} {sts rest : List Stmt} {s1 s2 : MS}
theorem nx_now {K : PySem.W.Frag} {ρ : Rho} {H : Hp} {σp : Sl} {σ : L2.St} {st : Sto} {D : Ends} (S : Sim K cl ρ st H) (rs : RelS K ρ H σp σ) (h : (ResS.nx σp st).post K cl ρ H D W) : D.nx σ H := h ρ H σ (Le.refl ρ) (Ext.refl H) S rs
def sSkip : MS := fun σ st => .nx σ st
def sSeq (f g : MS) : MS := fun σ st => (f σ st).seq g
theorem ms_nil : PSs X [] (tMS X.K cl W sSkip) := pss_nil.imp fun D σ H ⟨ρ, st, σp, S, rs, h⟩ => nx_now S rs h
theorem ms_one (h : PS X st0 (tMS X.K cl W s1)) : PSs X [st0] (tMS X.K cl W s1) := pss_one h
theorem ms_cons (h1 : PS X st0 (tMS X.K cl W s1)) (h2 : PSs X rest (tMS X.K cl W s2)) : PSs X (st0 :: rest) (tMS X.K cl W (sSeq s1 s2)) := (pss_cons h1 h2).imp fun D σ H ⟨ρ, st, σp, S, rs, h⟩ => by
  refine ⟨ρ, st, σp, S, rs, ?_⟩
  unfold sSeq at h
  cases q : s1 σp st with
  | nx σ1 t1 =>
    rw [q] at h
    exact fun ρ2 H2 σ2 l2 e2 S2 rs2 => ⟨ρ2, t1, σ1, S2, rs2, ResS.post.mono h l2 e2⟩
  | rt v t1 => rw [q] at h; exact h
  | bk σ1 t1 => rw [q] at h; exact h
  | ct σ1 t1 => rw [q] at h; exact h
  | err x σ1 t1 => rw [q] at h; exact h
  | stuck => rw [q] at h; exact h
def sPass : MS := sSkip
theorem ms_pass : PS X (.Pass pos) (tMS X.K cl W sSkip) := ps_pass.imp fun D σ H ⟨ρ, st, σp, S, rs, h⟩ => nx_now S rs h
def sBreak : MS := fun σ st => .bk σ st
theorem ms_break : PS X (.Break pos) (tMS X.K cl W sBreak) := ps_break.imp fun D σ H ⟨ρ, st, σp, S, rs, h⟩ => h ρ H σ (Le.refl ρ) (Ext.refl H) S rs
def sCont : MS := fun σ st => .ct σ st
theorem ms_cont : PS X (.Continue pos) (tMS X.K cl W sCont) := ps_continue.imp fun D σ H ⟨ρ, st, σp, S, rs, h⟩ => h ρ H σ (Le.refl ρ) (Ext.refl H) S rs
def sExpr (f : ME) : MS := fun σ st => (f σ st).toS σ fun _ st1 => .nx σ st1
theorem ms_expr (he : PE X e (tM X.K cl W fe)) (hs : swapsWith e none pos.line X.env = pure false := by rfl) : PS X (.Expr e pos) (tMS X.K cl W (sExpr fe)) := (ps_expr he hs).imp fun D σ H ⟨ρ, st, σp, S, rs, h⟩ =>
  ⟨ρ, st, σp, S, rs, Res.post.imp (toS_post rs h) (fun x st1 ρ1 H1 l1 e1 s1 h1 v rv => nx_now s1 (rs.mono l1 e1) h1) fun _ _ _ z => z⟩
def sRet (f : ME) : MS := fun σ st => (f σ st).toS σ fun v st1 => .rt v st1
theorem ms_ret (he : PE X e (tM X.K cl W fe)) : PS X (.Return (some e) pos) (tMS X.K cl W (sRet fe)) := (ps_ret he).imp fun D σ H ⟨ρ, st, σp, S, rs, h⟩ =>
  ⟨ρ, st, σp, S, rs, Res.post.imp (toS_post rs h) (fun x st1 ρ1 H1 l1 e1 s1 h1 v rv => h1 ρ1 H1 v (Le.refl _) (Ext.refl _) s1 rv) fun _ _ _ z => z⟩
def sRetN : MS := fun _ st => .rt .non st
theorem ms_retN : PS X (.Return none pos) (tMS X.K cl W sRetN) := ps_retN.imp fun D σ H ⟨ρ, st, σp, S, rs, h⟩ => h ρ H _ (Le.refl ρ) (Ext.refl H) S .non
def sIf (g : MT) (f1 f2 : MS) : MS := fun σ st => (g σ st).toS σ fun c st1 => if c = true then f1 σ st1 else f2 σ st1
theorem ms_if {sa sb : List Stmt} (hc : PT X c (tMT X.K cl W ga)) (ha : PSs X sa (tMS X.K cl W s1)) (hb : PSs X sb (tMS X.K cl W s2)) : PS X (.If c sa sb pos) (tMS X.K cl W (sIf ga s1 s2)) := (ps_if hc ha hb).imp fun D σ H ⟨ρ, st, σp, S, rs, h⟩ => by
  refine ⟨ρ, st, σp, S, rs, Res.post.imp (toS_post rs h) (fun c st1 ρ1 H1 l1 e1 S1 h1 => ?_) fun _ _ _ z => z⟩
  cases c with
  | true => exact iteT ⟨ρ1, st1, σp, S1, rs.mono l1 e1, h1⟩
  | false => exact iteF ⟨ρ1, st1, σp, S1, rs.mono l1 e1, h1⟩
/-- x = e -/
def sSet (i : Nat) (f : ME) : MS := fun σ st => (f σ st).toS σ fun v st1 => .nx (σ.set i (some v)) st1
theorem ms_set {i : Nat} {x : Str} (hN : X.N.Nodup) (hi : X.N[i]? = some x) (hx : Loc X.env.scope x) (he : PE X e (tM X.K cl W fe)) (hs : swapsWith e (some (.Name x pos')) pos.line X.env = pure false := by rfl) (hf : X.fn x = true ∨ X.env.scope.names.lookup x = some .local := by first | exact .inl rfl | exact .inr rfl | assumption) :
    PS X (.Assign [.Name x pos'] e pos) (tMS X.K cl W (sSet i fe)) := (ps_set hN hi hx he hs hf).imp fun D σ H ⟨ρ, st, σp, S, rs, h⟩ =>
  ⟨ρ, st, σp, S, rs, Res.post.imp (toS_post rs h) (fun x st1 ρ1 H1 l1 e1 S1 h1 v rv => nx_now S1 ((rs.mono l1 e1).set i rv) h1) fun _ _ _ z => z⟩
/-- o.f = e -/
def sFldM (c : Nat) (f : Str) (fo fe : ME) : MS := fun σ st => (fe σ st).toS σ fun y st1 => (fo σ st1).toS σ fun x st2 => match insOf c x st2 with
  | some (n, fs) => if fs.length < 900 then .nx σ (st2.set n (.ins c (putP f y fs))) else .stuck
  | none => .stuck
theorem ms_fld {c : Nat} {f : Str} (cC : Cls X.K (cl.ad c)) (na : NoAttr X.K (cl.ad c) f) (hf : f ∈ cl.fld c) (ho : PE X o (tM X.K cl W fo)) (he : PE X e (tM X.K cl W fe)) (hs : swapsWith e (some (.Attribute o f pos')) pos.line X.env = pure false := by rfl) :
    PS X (.Assign [.Attribute o f pos'] e pos) (tMS X.K cl W (sFldM c f fo fe)) := (ps_fld ho he hs).imp fun D σ H ⟨ρ, st, σp, S, rs, h⟩ => by
  refine ⟨ρ, st, σp, S, rs, Res.post.imp (toS_post rs h) (fun y st1 ρ1 H1 l1 e1 S1 h1 v rv => ?_) fun _ _ _ z => z⟩
  refine ⟨ρ1, st1, σp, S1, rs.mono l1 e1, Res.post.imp (toS_post (rs.mono l1 e1) h1) (fun x st2 ρ2 H2 l2 e2 S2 h2 w rw' => ?_) fun _ _ _ z => z⟩
  split at h2
  · next n fs eq =>
    split at h2
    · next hlen =>
      obtain ⟨b, dx, vs, rfl, rfl, hr, hq, rf, hfl, hget⟩ := insOf_at S2 rw' eq
      refine ⟨b, _, dx, vs, rfl, hq, cC, na, by rw [← rf.length]; omega, ?_⟩
      have ex : Ext X.K H2 (upd H2 b (.ins (cl.ad c) dx (putF f v vs))) := Ext.write hq trivial
      have S3 : Sim X.K cl ρ2 (st2.set n (.ins c (putP f y fs))) (upd H2 b (.ins (cl.ad c) dx (putF f v vs))) := S2.write hr hq trivial ⟨dx, _, upd_same, (rf.put f (rv.mono l2 e2)).mono (Le.refl _) ex, putP_fld hf hfl⟩
      exact h2 ρ2 _ σ (Le.refl _) ex S3 (((rs.mono l1 e1).mono l2 e2).mono (Le.refl _) ex)
    · exact h2.elim
  · exact h2.elim
/-- o.f += e -/
def sFldAdd (c : Nat) (f : Str) (fo fe : ME) : MS := fun σ st => (fo σ st).toS σ fun x st1 => match insOf c x st1 with
  | some (_, fs) => match fs.lookup f with
    | some (.int i) => (fe σ st1).toS σ fun y st2 => match y, insOf c x st2 with
      | .int j, some (n, fs2) => if fs2.length < 900 then .nx σ (st2.set n (.ins c (putP f (.int (i + j)) fs2))) else .stuck
      | _, _ => .stuck
    | _ => .stuck
  | none => .stuck
theorem ms_fldadd {c : Nat} {f : Str} (cC : Cls X.K (cl.ad c)) (na : NoAttr X.K (cl.ad c) f) (hf : f ∈ cl.fld c) (ho : PE X o (tM X.K cl W fo)) (he : PE X e (tM X.K cl W fe)) : PS X (.AugAssign (.Attribute o f pos') .Add e pos) (tMS X.K cl W (sFldAdd c f fo fe)) :=
  (ps_fldaug ho he in_add).imp fun D σ H ⟨ρ, st, σp, S, rs, h⟩ => by
    refine ⟨ρ, st, σp, S, rs, Res.post.imp (toS_post rs h) (fun x st1 ρ1 H1 l1 e1 S1 h1 v rv => ?_) fun _ _ _ z => z⟩
    split at h1
    · next n fs eq =>
      split at h1
      · next i ei =>
        obtain ⟨b, dx, vs, rfl, rfl, hr, hq, rf, hfl, hget⟩ := insOf_at S1 rv eq
        obtain ⟨u, hu, ru⟩ := rf.look ei
        cases ru
        refine ⟨b, _, dx, vs, _, rfl, hq, cC, na, hu, ρ1, st1, σp, S1, rs.mono l1 e1, Res.post.imp (toS_post (rs.mono l1 e1) h1) (fun y st2 ρ2 H2 l2 e2 S2 h2 w rw' => ?_) fun _ _ _ z => z⟩
        split at h2
        · next j n2 fs2 eq2 =>
          split at h2
          · next hlen =>
            cases rw'
            obtain ⟨b2, dx2, vs2, e9, _, hr2, hq2, rf2, hfl2, _⟩ := insOf_at S2 (.ref (l2 _ _ hr)) eq2
            cases e9
            refine ⟨_, _, rfl, rfl, dx2, vs2, hq2, by rw [← rf2.length]; omega, ?_⟩
            have ex : Ext X.K H2 (upd H2 b (.ins (cl.ad c) dx2 (putF f (.int (i + j)) vs2))) := Ext.write hq2 trivial
            have S3 : Sim X.K cl ρ2 (st2.set n2 (.ins c (putP f (.int (i + j)) fs2))) (upd H2 b (.ins (cl.ad c) dx2 (putF f (.int (i + j)) vs2))) := S2.write hr2 hq2 trivial ⟨dx2, _, upd_same, (rf2.put f (.int _)).mono (Le.refl _) ex, putP_fld hf hfl2⟩
            exact h2 ρ2 _ σ (Le.refl _) ex S3 (((rs.mono l1 e1).mono l2 e2).mono (Le.refl _) ex)
          · exact h2.elim
        · exact h2.elim
      · exact h1.elim
    · exact h1.elim
end
end MP
set_option Elab.async false
set_option linter.all false
set_option maxRecDepth 100000
set_option maxHeartbeats 2000000
namespace MP
open PySem PySem.Spec L2
instance : DecidableEq PO := fun a b => match a, b with
  | .lst xs, .lst ys => if h : xs = ys then isTrue (by rw [h]) else isFalse fun e => h (by cases e; rfl)
  | .dct a1 c1, .dct a2 c2 => if h : a1 = a2 ∧ c1 = c2 then isTrue (by rw [h.1, h.2]) else isFalse fun e => h (by cases e; exact ⟨rfl, rfl⟩)
  | .ins c1 f1, .ins c2 f2 => if h : c1 = c2 ∧ f1 = f2 then isTrue (by rw [h.1, h.2]) else isFalse fun e => h (by cases e; exact ⟨rfl, rfl⟩)
  | .lst _, .dct _ _ => isFalse fun e => nomatch e
  | .lst _, .ins _ _ => isFalse fun e => nomatch e
  | .dct _ _, .lst _ => isFalse fun e => nomatch e
  | .dct _ _, .ins _ _ => isFalse fun e => nomatch e
  | .ins _ _, .lst _ => isFalse fun e => nomatch e
  | .ins _ _, .dct _ _ => isFalse fun e => nomatch e
abbrev MG := PV → Sl → Option Sl
/-- a target that sets slots out of vs alone -/
def tMG (K : PySem.W.Frag) (vs : List Nat) (g : MG) : TG := fun v σ H N => ∃ ρ σp x, RelS K ρ H σp σ ∧ RelP K ρ H x v ∧ ∃ σp', g x σp = some σp' ∧ ∀ σ', RelS K ρ H σp' σ' → wipe σ' vs = wipe σ vs → N σ' H
def tMGs (K : PySem.W.Frag) (vs : List Nat) (g : List PV → Sl → Option Sl) : TGs := fun ws σ H N => ∃ ρ σp xs, RelS K ρ H σp σ ∧ RelPs K ρ H xs ws ∧ ∃ σp', g xs σp = some σp' ∧ ∀ σ', RelS K ρ H σp' σ' → wipe σ' vs = wipe σ vs → N σ' H
theorem wipe_get {σ : L2.St} {i : Nat} : ∀ {vs : List Nat}, i ∈ vs → i < σ.length → (wipe σ vs)[i]? = some none
  | [], h, _ => by cases h
  | v :: vs, h, hl => by
    unfold wipe
    by_cases e : v = i
    · subst e
      rw [List.getElem?_set_self (by rw [wipe_length]; exact hl)]
    · rw [List.getElem?_set_ne e]
      exact wipe_get ((List.mem_cons.mp h).resolve_left fun z => e z.symm) hl
theorem wipe_set {σ : L2.St} {i : Nat} {x : Option V} {vs : List Nat} (h : i ∈ vs) : wipe (σ.set i x) vs = wipe σ vs := by
  apply List.ext_getElem?
  intro j
  by_cases hj : j ∈ vs
  · by_cases hl : j < σ.length
    · rw [wipe_get hj (by rw [List.length_set]; exact hl), wipe_get hj hl]
    · rw [List.getElem?_eq_none (by rw [wipe_length, List.length_set]; omega), List.getElem?_eq_none (by rw [wipe_length]; omega)]
  · rw [wipe_out hj, wipe_out hj, List.getElem?_set_ne]
    exact fun e => hj (e ▸ h)
def wipeP (σ : Sl) : List Nat → Sl
  | [] => σ
  | v :: vs => (wipeP σ vs).set v none
theorem RelS.drop {K : PySem.W.Frag} {ρ : Rho} {H : Hp} {σp : Sl} {σ : L2.St} (h : RelS K ρ H σp σ) (i : Nat) (y : Option V) : RelS K ρ H (σp.set i none) (σ.set i y) := by
  refine ⟨by simp [h.1], fun j x q => ?_⟩
  by_cases hj : i = j
  · subst hj
    by_cases hl : i < σp.length
    · rw [List.getElem?_set_self hl] at q; cases q
    · rw [List.getElem?_eq_none (by simp; omega)] at q; cases q
  · rw [List.getElem?_set_ne hj] at q
    obtain ⟨w, a, b⟩ := h.2 j x q
    exact ⟨w, by rw [List.getElem?_set_ne hj]; exact a, b⟩
theorem RelS.wipe {K : PySem.W.Frag} {ρ : Rho} {H : Hp} {σp : Sl} {σ : L2.St} (h : RelS K ρ H σp σ) : ∀ vs, RelS K ρ H (wipeP σp vs) (L2.wipe σ vs)
  | [] => h
  | v :: vs => (RelS.wipe h vs).drop v none
section
variable {X : Cx} {vs : List Nat} {pos : Pos}
def gN (i : Nat) : MG := fun x σ => some (σ.set i (some x))
theorem mg_name {i : Nat} {x : Str} (hN : X.N.Nodup) (hi : X.N[i]? = some x) (hx : Loc X.env.scope x) (hv : i ∈ vs) (hf : X.fn x = true ∨ X.env.scope.names.lookup x = some .local := by first | exact .inl rfl | exact .inr rfl | assumption) : PG X (.Name x pos) (tMG X.K vs (gN i)) :=
  ⟨fun pins s σ H v u Q I r ⟨ρ, σp, x, rs, rx, σp', e, k⟩ => (pg_name hN hi hx hf).run pins s σ H v u Q I r (by
    cases e
    exact k _ (rs.set i rx) (wipe_set hv))⟩
def gsNil : List PV → Sl → Option Sl := fun xs σ => match xs with
  | [] => some σ
  | _ => none
def gsCons (g : MG) (gs : List PV → Sl → Option Sl) : List PV → Sl → Option Sl := fun xs σ => match xs with
  | x :: r => (g x σ).bind (gs r)
  | [] => none
theorem mgs_nil : PGs X [] (tMGs X.K vs gsNil) := ⟨fun pins s σ H v u Q I r ⟨ρ, σp, xs, rs, rx, σp', e, k⟩ => pgs_nil.run pins s σ H v u Q I r (by
  cases rx with
  | nil => cases e; exact ⟨rfl, k _ rs rfl⟩
  | cons _ _ => cases e)⟩
theorem mgs_cons {e : Expr} {es : List Expr} {g : MG} {gs : List PV → Sl → Option Sl} (h1 : PG X e (tMG X.K vs g)) (h2 : PGs X es (tMGs X.K vs gs))
    (hs : (assignEach (e :: es) X.env).map (·.2) = assign e X.env :: (assignEach es X.env).map (·.2) := by rfl) : PGs X (e :: es) (tMGs X.K vs (gsCons g gs)) :=
  ⟨fun pins s σ H v u Q I r ⟨ρ, σp, xs, rs, rx, σp', e, k⟩ => (pgs_cons h1 h2 hs).run pins s σ H v u Q I r (by
    cases rx with
    | nil => cases e
    | @cons x w xs ws h t =>
      have e : (g x σp).bind (gs xs) = some σp' := e
      obtain ⟨σ1, e1, e2⟩ := Option.bind_eq_some_iff.mp e
      exact ⟨_, _, rfl, ρ, σp, x, rs, h, σ1, e1, fun σ' r' w' => ⟨ρ, σ1, xs, r', t, σp', e2, fun σ'' r'' w'' => k σ'' r'' (w''.trans w')⟩⟩)⟩
def gT (n : Nat) (gs : List PV → Sl → Option Sl) : MG := fun x σ => match x with
  | .tup xs => if xs.length = n then gs xs σ else none
  | .ktp xs => if xs.length = n then gs xs σ else none
  | _ => none
theorem mg_tup {es : List Expr} {k : Nat} {n : Nat} {gs : List PV → Sl → Option Sl} (hc : X.calm = true) (h : PGs X es (tMGs X.K vs gs))
    (hn : (assignEach es X.env).length = n := by rfl) (hst : (assignEach es X.env).findIdx? (·.1) = none := by rfl) : PG X (.Tuple es k pos) (tMG X.K vs (gT n gs)) :=
  ⟨fun pins s σ H v u Q I r ⟨ρ, σp, x, rs, rx, σp', e, kk⟩ => (pg_tup hc h hn hst).run pins s σ H v u Q I r (by
    unfold gT at e
    split at e
    · split at e
      · next hl =>
        cases rx with
        | tup q rr => exact ⟨_, _, rfl, SqT.of q, by rw [← rr.length]; exact hl, ρ, σp, _, rs, rr, σp', e, kk⟩
      · cases e
    · split at e
      · next hl =>
        cases rx with
        | ktp q rr => exact ⟨_, _, rfl, q.sq, by rw [← rr.length]; exact hl, ρ, σp, _, rs, rr, σp', e, kk⟩
      · cases e
    · cases e)⟩
end

abbrev Gd := List (Nat × PO)
def chk (gd : Gd) (st : Sto) : Bool := gd.all fun p => decide (st.get p.1 = some p.2)
abbrev MW := Sl → Sto → Res (List PV × Gd)
/-- the iterator J yields xs as long as what gd says stands -/
def ItOk (K : PySem.W.Frag) (cl : CT) (J : It) (xs : List PV) (gd : Gd) (ρ1 : Rho) (H1 : Hp) : Prop :=
  ∀ ρ st H, Le ρ1 ρ → Ext K H1 H → Sim K cl ρ st H → chk gd st = true →
    (∀ i, xs.length ≤ i → J.stop i H) ∧ ∀ i x, xs[i]? = some x → J.go i H ∧ ∀ v H', J.yld i H v H' → Ext K H H' ∧ Sim K cl ρ st H' ∧ RelP K ρ H' x v
def tW (K : PySem.W.Frag) (cl : CT) (W : WX) (f : MW) : TI := fun σ H R => ∃ ρ st σp, Sim K cl ρ st H ∧ RelS K ρ H σp σ ∧
  (f σp st).post K cl ρ H (fun p _ ρ1 H1 => ∀ J, ItOk K cl J p.1 p.2 ρ1 H1 → R J H1) fun C d H' => W C d σ H'
theorem _root_.L2.PI.imp {X : Cx} {tg e : Expr} {t t' : TI} (h : PI X tg e t) (i : ∀ σ H R, t' σ H R → t σ H R) : PI X tg e t' := ⟨fun pins s σ H R I q => h.run pins s σ H R I (i σ H R q)⟩
theorem pi_or {X : Cx} {tg e : Expr} {t t' : TI} (h : PI X tg e t) (h' : PI X tg e t') : PI X tg e (fun σ H R => t σ H R ∨ t' σ H R) := ⟨fun pins s σ H R I q => q.elim (h.run pins s σ H R I) (h'.run pins s σ H R I)⟩
theorem pe_or {X : Cx} {e : Expr} {t t' : TE} (h : PE X e t) (h' : PE X e t') : PE X e (fun σ H R => t σ H R ∨ t' σ H R) := ⟨fun pins s σ H R I q => q.elim (h.run pins s σ H R I) (h'.run pins s σ H R I)⟩
section
variable {K : PySem.W.Frag} {cl : CT} {ρ : Rho} {st : Sto} {H : Hp}
theorem RelPs.getR {xs : List PV} {vs : List V} {i : Nat} {x : PV} {v : V} (h : RelPs K ρ H xs vs) (e : xs[i]? = some x) (e2 : vs[i]? = some v) : RelP K ρ H x v := by
  obtain ⟨w, q, r⟩ := h.get e
  rw [e2] at q
  cases q
  exact r
theorem RelPs.some {xs : List PV} {vs : List V} {i : Nat} {x : PV} (h : RelPs K ρ H xs vs) (e : xs[i]? = some x) : ∃ v, vs[i]? = some v := by
  obtain ⟨w, q, r⟩ := h.get e
  exact ⟨w, q⟩
theorem it_lst {n : Nat} {a : Addr} {xs : List PV} (hr : ρ n = some a) (S : Sim K cl ρ st H) : ItOk K cl (Itl K a) xs [(n, .lst xs)] ρ H := by
  intro ρ' st' H' l e S' hc
  have hg : st'.get n = .some (.lst xs) := by simpa [chk] using hc
  obtain ⟨vs, q, r⟩ := S'.at_ (l _ _ hr) hg
  have hl := r.length
  refine ⟨fun i hi => ⟨vs, .inl (.inl q), by omega⟩, fun i x hx => ?_⟩
  obtain ⟨v, hv, rv⟩ := r.get hx
  exact ⟨⟨vs, v, .inl (.inl q), hv⟩, fun w H2 ⟨e2, k⟩ => by
    subst e2
    exact ⟨Ext.refl _, S', r.getR hx (k vs (.inl (.inl q)))⟩⟩
theorem it_rol {a : Addr} {xs : List PV} {vs : List V} (h : RoL K H a vs) (r : RelPs K ρ H xs vs) : ItOk K cl (Itl K a) xs [] ρ H := by
  intro ρ' st' H' l e S' hc
  have r' := r.mono l e
  have q := (e.w.rol _ _ h).sql
  have hl := r'.length
  refine ⟨fun i hi => ⟨vs, q, by omega⟩, fun i x hx => ?_⟩
  obtain ⟨v, hv, rv⟩ := r'.get hx
  exact ⟨⟨vs, v, q, hv⟩, fun w H2 ⟨e2, k⟩ => by
    subst e2
    exact ⟨Ext.refl _, S', r'.getR hx (k vs q)⟩⟩
theorem it_tup {a : Addr} {xs : List PV} {vs : List V} (h : ∀ H', Ext K H H' → SqT K H' a vs) (r : RelPs K ρ H xs vs) : ItOk K cl (Itt K a) xs [] ρ H := by
  intro ρ' st' H' l e S' hc
  have r' := r.mono l e
  have q := h _ e
  have hl := r'.length
  refine ⟨fun i hi => ⟨vs, q, by omega⟩, fun i x hx => ?_⟩
  obtain ⟨v, hv, rv⟩ := r'.get hx
  exact ⟨⟨vs, v, q, hv⟩, fun w H2 ⟨e2, k⟩ => by
    subst e2
    exact ⟨Ext.refl _, S', r'.getR hx (k vs q)⟩⟩
theorem relDk_get {kvs : List (PV × PV)} {ws : List (Key × V)} (h : RelDk K ρ H kvs ws) : ∀ {i : Nat} {k : Key} {v : V}, ws[i]? = .some (k, v) → ∃ x y, kvs[i]? = .some (x, y) ∧ RelP K ρ H x (kV k) ∧ RelP K ρ H y v := by
  induction h with
  | nil => intro i k v e; simp at e
  | @cons x y k v xs vs hk h t ih =>
    intro i k' v' e
    cases i with
    | zero =>
      simp at e
      obtain ⟨rfl, rfl⟩ := e
      refine ⟨x, y, rfl, ?_, h⟩
      cases x <;> simp [keyK] at hk <;> subst hk
      · exact .int _
      · exact .str _
    | succ i =>
      obtain ⟨x', y', q, r⟩ := ih (i := i) (by simpa using e)
      exact ⟨x', y', by simpa using q, r⟩
theorem RelDk.length {kvs : List (PV × PV)} {ws : List (Key × V)} (h : RelDk K ρ H kvs ws) : kvs.length = ws.length := by
  induction h with
  | nil => rfl
  | cons _ _ _ ih => rw [List.length_cons, List.length_cons, ih]
theorem RelDt.length {kvs : List (PV × PV)} {ws : List (List Key × V)} (h : RelDt K ρ H kvs ws) : kvs.length = ws.length := by
  induction h with
  | nil => rfl
  | cons _ _ _ ih => rw [List.length_cons, List.length_cons, ih]
theorem keysK_rel : ∀ {xs : List PV} {ks : List Key}, keysK xs = .some ks → RelPs K ρ H xs (ks.map kV)
  | [], ks, h => by rw [keysK] at h; cases h; exact .nil
  | x :: xs, ks, h => by
    rw [keysK] at h
    split at h
    · next k r e1 e2 =>
      cases h
      refine .cons ?_ (keysK_rel e2)
      cases x <;> simp [keyK] at e1 <;> subst e1
      · exact .int _
      · exact .str _
    · cases h
theorem relDt_get {kvs : List (PV × PV)} {ws : List (List Key × V)} (h : RelDt K ρ H kvs ws) : ∀ {i : Nat} {k : List Key} {v : V}, ws[i]? = .some (k, v) → ∃ x y, kvs[i]? = .some (.tup x, y) ∧ RelPs K ρ H x (k.map kV) ∧ RelP K ρ H y v := by
  induction h with
  | nil => intro i k v e; simp at e
  | @cons x y k v xs vs hk h t ih =>
    intro i k' v' e
    cases i with
    | zero =>
      simp at e
      obtain ⟨rfl, rfl⟩ := e
      cases x with
      | tup zs => exact ⟨zs, y, rfl, keysK_rel hk, h⟩
      | _ => cases hk
    | succ i =>
      obtain ⟨x', y', q, r⟩ := ih (i := i) (by simpa using e)
      exact ⟨x', y', by simpa using q, r⟩
/-- a locked dict of the store -/
theorem dct_at {n : Nat} {a : Addr} {kvs : List (PV × PV)} (S : Sim K cl ρ st H) (hr : ρ n = .some a) (e : st.get n = .some (.dct kvs true)) :
    (∃ o ws, H a = .some (.frz o (.dK ws)) ∧ RelDk K ρ H kvs ws) ∨ ∃ o ws, H a = .some (.frz o (.dT ws)) ∧ RelDt K ρ H kvs ws ∧ kvs ≠ [] := by
  obtain ⟨u, r, o, q⟩ := S.at_ hr e
  rcases r with ⟨ws, rfl, r⟩ | ⟨ne, ws, rfl, r⟩
  · exact .inl ⟨o, ws, q, r⟩
  · exact .inr ⟨o, ws, q, r, ne⟩
theorem map_get {α β : Type} {f : α → β} {xs : List α} {i : Nat} {y : β} (h : (xs.map f)[i]? = .some y) : ∃ x, xs[i]? = .some x ∧ y = f x := by
  rw [List.getElem?_map] at h
  obtain ⟨x, h1, h2⟩ := Option.map_eq_some_iff.mp h
  exact ⟨x, h1, h2.symm⟩
/-- where a locked dict stands in H1, with its pairs, at a later moment -/
theorem dk_later {n : Nat} {a : Addr} {o : Obj} {ws : List (Key × V)} {kvs : List (PV × PV)} (q : H a = .some (.frz o (.dK ws))) (r : RelDk K ρ H kvs ws) {ρ' : Rho} {H' : Hp} (l : Le ρ ρ') (e : Ext K H H') : H' a = .some (.frz o (.dK ws)) ∧ RelDk K ρ' H' kvs ws := ⟨e.frz _ _ _ q, r.monoW l e.w⟩
theorem it_keys {a : Addr} {o : Obj} {ws : List (Key × V)} {kvs : List (PV × PV)} (q : H a = .some (.frz o (.dK ws))) (r : RelDk K ρ H kvs ws) : ItOk K cl (Itk a o ws) (kvs.map (·.1)) [] ρ H := by
  intro ρ' st' H' l e S' hc
  have q' := e.frz _ _ _ q
  have r' := r.monoW l e.w
  have hl := r'.length
  refine ⟨fun i hi => ⟨q', by rw [List.length_map] at hi; omega⟩, fun i x hx => ?_⟩
  obtain ⟨⟨k, y⟩, h1, rfl⟩ := map_get hx
  have hlt : i < ws.length := by
    have := (List.getElem?_eq_some_iff.mp h1).1
    omega
  refine ⟨⟨q', hlt⟩, fun w H2 ⟨e2, k2, v2, hk, ew⟩ => ?_⟩
  subst e2
  obtain ⟨x', y', h2, h3, _⟩ := relDk_get r' hk
  rw [h1] at h2
  cases h2
  rw [ew]
  exact ⟨Ext.refl _, S', h3⟩
theorem it_keysT {a : Addr} {o : Obj} {ws : List (List Key × V)} {kvs : List (PV × PV)} (q : H a = .some (.frz o (.dT ws))) (r : RelDt K ρ H kvs ws) : ItOk K cl (Itkt a o ws) (kvs.map (·.1)) [] ρ H := by
  intro ρ' st' H' l e S' hc
  have q' := e.frz _ _ _ q
  have r' := r.monoW l e.w
  have hl := r'.length
  refine ⟨fun i hi => ⟨q', by rw [List.length_map] at hi; omega⟩, fun i x hx => ?_⟩
  obtain ⟨⟨k, y⟩, h1, rfl⟩ := map_get hx
  have hlt : i < ws.length := by
    have := (List.getElem?_eq_some_iff.mp h1).1
    omega
  refine ⟨⟨q', hlt⟩, fun w H2 ⟨e2, k2, v2, p2, hk, ew, ep⟩ => ?_⟩
  subst e2
  obtain ⟨x', y', h2, h3, _⟩ := relDt_get r' hk
  rw [h1] at h2
  cases h2
  rw [ew]
  exact ⟨Ext.refl _, S', .tup ep h3⟩
theorem it_vals {a : Addr} {o : Obj} {ws : List (Key × V)} {kvs : List (PV × PV)} (q : H a = .some (.frz o (.dK ws))) (r : RelDk K ρ H kvs ws) : ItOk K cl (Itd a o ws) (kvs.map (·.2)) [] ρ H := by
  intro ρ' st' H' l e S' hc
  have q' := e.frz _ _ _ q
  have r' := r.monoW l e.w
  have hl := r'.length
  refine ⟨fun i hi => ⟨q', by rw [List.length_map] at hi; omega⟩, fun i x hx => ?_⟩
  obtain ⟨⟨k, y⟩, h1, rfl⟩ := map_get hx
  have hlt : i < ws.length := by
    have := (List.getElem?_eq_some_iff.mp h1).1
    omega
  refine ⟨⟨q', hlt⟩, fun w H2 ⟨e2, k2, hk⟩ => ?_⟩
  subst e2
  obtain ⟨x', y', h2, _, h3⟩ := relDk_get r' hk
  rw [h1] at h2
  cases h2
  exact ⟨Ext.refl _, S', h3⟩
/-- a heap with a new object that the store does not track -/
theorem Sim.plus (S : Sim K cl ρ st H) {p : Addr} {o : HO} (h : H p = none) : Sim K cl ρ st (upd H p o) :=
  S.keep (ExtW.new h) (fun n a hr => by
    obtain ⟨u, q⟩ := S.there hr
    exact upd_ne (ne_of_none q h)) (tabs_new S.tab h)
theorem it_items {a : Addr} {o : Obj} {ws : List (Key × V)} {kvs : List (PV × PV)} (q : H a = .some (.frz o (.dK ws))) (r : RelDk K ρ H kvs ws) : ItOk K cl (Iti a o ws) (kvs.map fun p => .tup [p.1, p.2]) [] ρ H := by
  intro ρ' st' H' l e S' hc
  have q' := e.frz _ _ _ q
  have r' := r.monoW l e.w
  have hl := r'.length
  refine ⟨fun i hi => ⟨q', by rw [List.length_map] at hi; omega⟩, fun i x hx => ?_⟩
  obtain ⟨⟨k, y⟩, h1, rfl⟩ := map_get hx
  have hlt : i < ws.length := by
    have := (List.getElem?_eq_some_iff.mp h1).1
    omega
  refine ⟨⟨q', hlt⟩, fun w H2 ⟨T, k2, v2, hk, ew, hT, e2⟩ => ?_⟩
  obtain ⟨x', y', h2, h3, h4⟩ := relDk_get r' hk
  rw [h1] at h2
  cases h2
  subst e2
  rw [ew]
  have ex : Ext K H' (upd H' T (.tup [kV k2, v2])) := Ext.new hT
  exact ⟨ex, S'.plus hT, .tup upd_same (.cons (h3.mono (Le.refl _) ex) (.cons (h4.mono (Le.refl _) ex) .nil))⟩
def rngP (lo : Int) (n : Nat) : List PV := (List.range n).map fun (i : Nat) => PV.int (lo + i)
theorem it_rng {lo : Int} {n : Nat} : ItOk K cl (Itr lo n) (rngP lo n) [] ρ H := by
  intro ρ' st' H' l e S' hc
  refine ⟨fun i hi => (by simpa [rngP] using hi : n ≤ i), fun i x hx => ?_⟩
  obtain ⟨j, h1, rfl⟩ := map_get hx
  have hlt : i < n := by
    have := (List.getElem?_eq_some_iff.mp h1).1
    simpa using this
  have hj : j = i := by
    rw [List.getElem?_range hlt] at h1
    cases h1; rfl
  subst hj
  refine ⟨hlt, fun w H2 ⟨e2, ew⟩ => ?_⟩
  subst e2
  rw [ew]
  exact ⟨Ext.refl _, S', .int _⟩
def rngC (lo c : Int) (n : Nat) : List PV := (List.range n).map fun (i : Nat) => PV.int (lo + i * c)
theorem it_rngC {lo c : Int} {n : Nat} : ItOk K cl (Itc lo c n) (rngC lo c n) [] ρ H := by
  intro ρ' st' H' l e S' hc
  refine ⟨fun i hi => (by simpa [rngC] using hi : n ≤ i), fun i x hx => ?_⟩
  obtain ⟨j, h1, rfl⟩ := map_get hx
  have hlt : i < n := by
    have := (List.getElem?_eq_some_iff.mp h1).1
    simpa using this
  have hj : j = i := by
    rw [List.getElem?_range hlt] at h1
    cases h1; rfl
  subst hj
  refine ⟨hlt, fun w H2 ⟨e2, ew⟩ => ?_⟩
  subst e2
  rw [ew]
  exact ⟨Ext.refl _, S', .int _⟩
def chars (x : Str) : List PV := x.cps.toList.map fun c => PV.str ⟨#[c]⟩
theorem it_str {x : Str} : ItOk K cl (Its x) (chars x) [] ρ H := by
  intro ρ' st' H' l e S' hc
  refine ⟨fun i hi => (by simpa [chars] using hi : x.cps.size ≤ i), fun i y hx => ?_⟩
  obtain ⟨j, h1, rfl⟩ := map_get hx
  have hlt : i < x.cps.size := by
    have := (List.getElem?_eq_some_iff.mp h1).1
    simpa using this
  refine ⟨hlt, fun w H2 ⟨e2, c, hcc, ew⟩ => ?_⟩
  subst e2
  rw [ew]
  have : c = j := by
    rw [Array.getElem?_toList] at h1
    rw [hcc] at h1
    cases h1; rfl
  rw [this]
  exact ⟨Ext.refl _, S', .str _⟩
/-- a sequence: a list of the store, or one that is only read -/
def lstOf2 (x : PV) (st : Sto) : Option (List PV × Gd) := match x with
  | .ref n => match st.get n with
    | .some (.lst xs) => .some (xs, [(n, .lst xs)])
    | _ => none
  | .rls xs => .some (xs, [])
  | _ => none
theorem seq_sq {x : PV} {v : V} {xs : List PV} {gd : Gd} (h : lstOf2 x st = .some (xs, gd)) (r : RelP K ρ H x v) (S : Sim K cl ρ st H) :
    ∃ a, v = .ref a ∧ ∀ ρ' st' H', Le ρ ρ' → Ext K H H' → Sim K cl ρ' st' H' → chk gd st' = true → ∃ vs, SqL K H' a vs ∧ RelPs K ρ' H' xs vs := by
  unfold lstOf2 at h
  split at h
  · next n =>
    split at h
    · next ys e =>
      cases h
      cases r with
      | @ref _ a hr =>
        refine ⟨_, rfl, fun ρ' st' H' l e S' hc => ?_⟩
        have hg : st'.get n = .some (.lst xs) := by simpa [chk] using hc
        obtain ⟨vs, q, rr⟩ := S'.at_ (l _ _ hr) hg
        exact ⟨vs, .inl (.inl q), rr⟩
    · cases h
  · cases h
    cases r with
    | rls q rr => exact ⟨_, rfl, fun ρ' st' H' l e S' hc => ⟨_, (e.w.rol _ _ q).sql, rr.mono l e⟩⟩
  · cases h
theorem seq_chk {x : PV} {xs : List PV} {gd : Gd} (h : lstOf2 x st = .some (xs, gd)) : chk gd st = true := by
  unfold lstOf2 at h
  split at h
  · split at h
    · next e => cases h; simp [chk, e]
    · cases h
  · cases h; rfl
  · cases h
def enumP (xs : List PV) : List PV := xs.zipIdx.map fun p => PV.tup [.int p.2, p.1]
theorem it_enum {x : PV} {a : Addr} {xs : List PV} {gd : Gd} (h : lstOf2 x st = .some (xs, gd)) (r : RelP K ρ H x (.ref a)) (S : Sim K cl ρ st H) : ItOk K cl (Ite K a) (enumP xs) gd ρ H := by
  obtain ⟨b, eb, k⟩ := seq_sq h r S
  cases eb
  intro ρ' st' H' l e S' hc
  obtain ⟨vs, q, rr⟩ := k ρ' st' H' l e S' hc
  have hl := rr.length
  refine ⟨fun i hi => ⟨vs, q, by simp [enumP] at hi; omega⟩, fun i y hy => ?_⟩
  obtain ⟨⟨z, j⟩, h1, rfl⟩ := map_get hy
  rw [List.getElem?_zipIdx] at h1
  obtain ⟨z', h2, h3⟩ := Option.map_eq_some_iff.mp h1
  cases h3
  obtain ⟨v, hv, rv⟩ := rr.get h2
  refine ⟨⟨vs, v, q, hv⟩, fun w H2 ⟨T, v2, ew, hT, e2, kk⟩ => ?_⟩
  subst e2
  rw [ew]
  have hv2 := kk vs q
  have ex : Ext K H' (upd H' T (.tup [.int (i : Nat), v2])) := Ext.new hT
  rw [show 0 + i = i by omega]
  exact ⟨ex, S'.plus hT, .tup upd_same (.cons (.int _) (.cons ((rr.getR h2 hv2).mono (Le.refl _) ex) .nil))⟩
def zipP (xs ys : List PV) : List PV := (xs.zip ys).map fun p => PV.tup [p.1, p.2]
theorem it_zip {x y : PV} {a b : Addr} {xs ys : List PV} {gd gd2 : Gd} (h : lstOf2 x st = .some (xs, gd)) (r : RelP K ρ H x (.ref a)) (h2 : lstOf2 y st = .some (ys, gd2)) (r2 : RelP K ρ H y (.ref b)) (S : Sim K cl ρ st H) : ItOk K cl (Itz K a b) (zipP xs ys) (gd ++ gd2) ρ H := by
  obtain ⟨_, eb, k⟩ := seq_sq h r S
  cases eb
  obtain ⟨_, eb, k2⟩ := seq_sq h2 r2 S
  cases eb
  intro ρ' st' H' l e S' hc
  have hc : chk gd st' = true ∧ chk gd2 st' = true := by simpa [chk] using hc
  obtain ⟨vs, q, rr⟩ := k ρ' st' H' l e S' hc.1
  obtain ⟨ws, q2, rr2⟩ := k2 ρ' st' H' l e S' hc.2
  have hl := rr.length
  have hl2 := rr2.length
  refine ⟨fun i hi => ⟨vs, ws, q, q2, by simp [zipP] at hi; omega⟩, fun i y hy => ?_⟩
  obtain ⟨⟨z, z2⟩, h1, rfl⟩ := map_get hy
  obtain ⟨h3, h4⟩ := List.getElem?_zip_eq_some.mp h1
  obtain ⟨v, hv, rv⟩ := rr.get h3
  obtain ⟨v2, hv2, rv2⟩ := rr2.get h4
  refine ⟨⟨vs, ws, v, v2, q, q2, hv, hv2⟩, fun w H2 ⟨T, u1, u2, ew, hT, e2, kk, kk2⟩ => ?_⟩
  subst e2
  rw [ew]
  have ex : Ext K H' (upd H' T (.tup [u1, u2])) := Ext.new hT
  exact ⟨ex, S'.plus hT, .tup upd_same (.cons ((rr.getR h3 (kk vs q)).mono (Le.refl _) ex) (.cons ((rr2.getR h4 (kk2 ws q2)).mono (Le.refl _) ex) .nil))⟩
end
end MP
set_option Elab.async false
set_option linter.all false
set_option maxRecDepth 100000
set_option maxHeartbeats 2000000
namespace MP
open PySem PySem.Spec L2
section
variable {X : Cx} {cl : CT} {W : WX} {a b c o e tg iter : Expr} {fa fb fc fo fe : ME} {ga gb : MT} {pos pos' apos cpos p tpos : Pos} {elts : List Expr} {kk : Nat}
/-- any plain expression, walked -/
def walkV (x : PV) (st : Sto) : Res (List PV × Gd) := match x with
  | .ref n => match st.get n with
    | some (.lst xs) => .ok (xs, [(n, .lst xs)]) st
    | some (.dct kvs true) => .ok (kvs.map (·.1), []) st
    | _ => .stuck
  | .rls xs => .ok (xs, []) st
  | .tup xs => .ok (xs, []) st
  | .ktp xs => .ok (xs, []) st
  | .str x => .ok (chars x, []) st
  | _ => .stuck
def mwE (fe : ME) : MW := fun σ st => (fe σ st).bind walkV
theorem mw_e (he : PE X e (tM X.K cl W fe)) : PI X tg e (tW X.K cl W (mwE fe)) := by
  refine (pi_or (pi_or (pi_list he) (pi_tup he)) (pi_or (pi_keys he) (pi_str he))).imp fun σ H R ⟨ρ, st, σp, S, rs, h⟩ => ?_
  unfold mwE at h
  -- by the value that comes
  have go : ∀ x st1, fe σp st = .ok x st1 → _ := fun x st1 q => by
    rw [q] at h
    have h : (walkV x st1).post X.K cl ρ H _ _ := h
    exact h
  cases q : fe σp st with
  | err z s => rw [q] at h; exact .inl (.inl ⟨ρ, st, σp, S, rs, by rw [q]; exact h⟩)
  | stuck => rw [q] at h; exact h.elim
  | ok x st1 =>
    have h := go x st1 q
    have mk : ∀ {Q : VK}, (∀ ρ1 H1 v, Le ρ ρ1 → Ext X.K H H1 → Sim X.K cl ρ1 st1 H1 → RelP X.K ρ1 H1 x v → Q v H1) → tM X.K cl W fe σ H Q := fun k => ⟨ρ, st, σp, S, rs, by
      rw [q]
      exact fun ρ1 H1 l1 e1 S1 v rv => k ρ1 H1 v l1 e1 S1 rv⟩
    unfold walkV at h
    split at h
    · next n =>
      split at h
      · next xs eq =>
        exact .inl (.inl (mk fun ρ1 H1 v l1 e1 S1 rv => by
          cases rv with
          | @ref _ a hr =>
            obtain ⟨vs, q1, r1⟩ := S1.at_ hr eq
            exact ⟨_, rfl, ⟨vs, .inl (.inl q1)⟩, h ρ1 H1 l1 e1 S1 _ (it_lst hr S1)⟩))
      · next kvs eq =>
        exact .inr (.inl (mk fun ρ1 H1 v l1 e1 S1 rv => by
          cases rv with
          | @ref _ a hr =>
            rcases dct_at S1 hr eq with ⟨o, ws, q1, r1⟩ | ⟨o, ws, q1, r1, _⟩
            · exact ⟨_, o, rfl, .inl ⟨ws, q1, h ρ1 H1 l1 e1 S1 _ (it_keys q1 r1)⟩⟩
            · exact ⟨_, o, rfl, .inr ⟨ws, q1, h ρ1 H1 l1 e1 S1 _ (it_keysT q1 r1)⟩⟩))
      · exact h.elim
    · next xs =>
      exact .inl (.inl (mk fun ρ1 H1 v l1 e1 S1 rv => by
        cases rv with
        | rls q1 r1 => exact ⟨_, rfl, ⟨_, q1.sql⟩, h ρ1 H1 l1 e1 S1 _ (it_rol q1 r1)⟩))
    · next xs =>
      exact .inl (.inr (mk fun ρ1 H1 v l1 e1 S1 rv => by
        cases rv with
        | tup q1 r1 => exact ⟨_, rfl, ⟨_, SqT.of q1⟩, h ρ1 H1 l1 e1 S1 _ (it_tup (fun H' e => SqT.of (e.w.tup _ _ q1)) r1)⟩))
    · next xs =>
      exact .inl (.inr (mk fun ρ1 H1 v l1 e1 S1 rv => by
        cases rv with
        | ktp q1 r1 => exact ⟨_, rfl, ⟨_, q1.sq⟩, h ρ1 H1 l1 e1 S1 _ (it_tup (fun H' e => q1.sq) r1)⟩))
    · next xs =>
      exact .inr (.inr (mk fun ρ1 H1 v l1 e1 S1 rv => by
        cases rv
        exact ⟨_, rfl, h ρ1 H1 l1 e1 S1 _ it_str⟩))
    · exact h.elim
/-- the pairs of a locked dict -/
def lockedK (x : PV) (st : Sto) : Option (List (PV × PV)) := match x with
  | .ref n => match st.get n with
    | some (.dct kvs true) => if kvs.all (fun p => (keyK p.1).isSome) = true then some kvs else none
    | _ => none
  | _ => none
theorem lockedK_at {K : PySem.W.Frag} {ρ : Rho} {H : Hp} {st : Sto} {x : PV} {v : V} {kvs : List (PV × PV)} (h : lockedK x st = some kvs) (r : RelP K ρ H x v) (S : Sim K cl ρ st H) : ∃ a o ws, v = .ref a ∧ H a = some (.frz o (.dK ws)) ∧ RelDk K ρ H kvs ws := by
  unfold lockedK at h
  split at h
  · split at h
    · next eq =>
      split at h
      · next hk =>
        cases h
        cases r with
        | @ref _ a hr =>
          rcases dct_at S hr eq with ⟨o, ws, q, r⟩ | ⟨o, ws, q, r, ne⟩
          · exact ⟨_, o, ws, rfl, q, r⟩
          · cases r with
            | nil => exact absurd rfl ne
            | @cons k _ _ _ _ _ hk2 _ _ => cases k <;> first | cases hk2 | simp [keyK] at hk
      · cases h
    · cases h
  · cases h
def mwDict (f : List (PV × PV) → List PV) (fe : ME) : MW := fun σ st => (fe σ st).bind fun x st1 => match lockedK x st1 with
  | some kvs => .ok (f kvs, []) st1
  | none => .stuck
theorem mwDict_go {t : TE → TI} {J : Addr → Obj → List (Key × V) → It} {f : List (PV × PV) → List PV} (hi : PI X tg iter (t (tM X.K cl W fe)))
    (ht : ∀ σ H R, tM X.K cl W fe σ H (fun x H1 => ∃ d o kvs, x = .ref d ∧ H1 d = some (.frz o (.dK kvs)) ∧ R (J d o kvs) H1) → t (tM X.K cl W fe) σ H R)
    (hJ : ∀ ρ H a o ws kvs, H a = some (.frz o (.dK ws)) → RelDk X.K ρ H kvs ws → ItOk X.K cl (J a o ws) (f kvs) [] ρ H) : PI X tg iter (tW X.K cl W (mwDict f fe)) :=
  hi.imp fun σ H R ⟨ρ, st, σp, S, rs, h⟩ => ht σ H R ⟨ρ, st, σp, S, rs, Res.post.imp (Res.post.bind h) (fun x st1 ρ1 H1 l1 e1 S1 h1 v rv => by
    split at h1
    · next kvs eq =>
      obtain ⟨a, o, ws, rfl, q, r⟩ := lockedK_at eq rv S1
      exact ⟨a, o, ws, rfl, q, Res.post.now S1 h1 _ (hJ _ _ _ _ _ _ q r)⟩
    · exact h1.elim) fun _ _ _ z => z⟩
theorem mw_values (he : PE X e (tM X.K cl W fe)) (hbase : attributeBase e "values" X.env (eval e X.env) = eval e X.env := by rfl) (hline : (apos.endLine == cpos.line) = true := by rfl) : PI X tg (.Call (.Attribute e "values" apos) [] [] cpos) (tW X.K cl W (mwDict (·.map (·.2)) fe)) :=
  mwDict_go (t := iVals) (pi_values he hbase hline) (fun _ _ _ h => h) fun _ _ _ _ _ _ q r => it_vals q r
theorem mw_keysM (he : PE X e (tM X.K cl W fe)) (hbase : attributeBase e "keys" X.env (eval e X.env) = eval e X.env := by rfl) (hline : (apos.endLine == cpos.line) = true := by rfl) : PI X tg (.Call (.Attribute e "keys" apos) [] [] cpos) (tW X.K cl W (mwDict (·.map (·.1)) fe)) :=
  mwDict_go (t := iKeysM) (pi_keysM he hbase hline) (fun _ _ _ h => h) fun _ _ _ _ _ _ q r => it_keys q r
theorem mw_items (he : PE X e (tM X.K cl W fe)) (hbase : attributeBase e "items" X.env (eval e X.env) = eval e X.env := by rfl) (hline : (apos.endLine == cpos.line) = true := by rfl) : PI X (.Tuple elts kk tpos) (.Call (.Attribute e "items" apos) [] [] cpos) (tW X.K cl W (mwDict (·.map fun p => .tup [p.1, p.2]) fe)) :=
  mwDict_go (t := iItems) (pi_items he hbase hline) (fun _ _ _ h => h) fun _ _ _ _ _ _ q r => it_items q r
/-- range(..) -/
def big62 (i : Int) : Bool := decide (-(2 ^ 62) ≤ i) && decide (i < 2 ^ 62)
theorem big62_of {i : Int} (h : big62 i = true) : -(2 ^ 62) ≤ i ∧ i < 2 ^ 62 := by
  unfold big62 at h
  rw [Bool.and_eq_true] at h
  exact ⟨of_decide_eq_true h.1, of_decide_eq_true h.2⟩
def mwR1 (g : MEs) : MW := fun σ st => (g σ st).bind fun xs st1 => match xs with
  | [.int j] => if big62 j = true then .ok (rngP 0 j.toNat, []) st1 else .stuck
  | _ => .stuck
def mwR2 (g : MEs) : MW := fun σ st => (g σ st).bind fun xs st1 => match xs with
  | [.int i, .int j] => if big62 i = true ∧ big62 j = true then .ok (rngP i (j - i).toNat, []) st1 else .stuck
  | _ => .stuck
def mwR3 (g : MEs) : MW := fun σ st => (g σ st).bind fun xs st1 => match xs with
  | [.int i, .int j, .int c] => if c ≠ 0 ∧ c.natAbs < 1073741824 ∧ Builtin.Range.small i j c = true ∧ 0 ≤ Builtin.Range.rangeSize i j c then .ok (rngC i c (Builtin.Range.rangeSize i j c).toNat, []) st1 else .stuck
  | _ => .stuck
variable {g : MEs}
theorem mw_range1 (hg : Gl X "range") (hm : X.mg "range" = none) (ha : PA X [a] (tMA X.K cl W g)) (hs : starEach [a] X.env = [(false, eval a X.env)] := by rfl) : PI X tg (.Call (.Name "range" p) [a] [] pos) (tW X.K cl W (mwR1 g)) :=
  (pi_range1 hg hm ha hs).imp fun σ H R ⟨ρ, st, σp, S, rs, h⟩ => ⟨ρ, st, σp, S, rs, Res.post.imp (Res.post.bind h) (fun xs st1 ρ1 H1 l1 e1 S1 h1 vs rv => by
    split at h1
    · next j =>
      split at h1
      · next hb =>
        cases rv with
        | cons r1 rr =>
          cases rr
          cases r1
          exact ⟨_, rfl, (big62_of hb).1, (big62_of hb).2, Res.post.now S1 h1 _ it_rng⟩
      · exact h1.elim
    · exact h1.elim) fun _ _ _ z => z⟩
theorem mw_range2 (hg : Gl X "range") (hm : X.mg "range" = none) (ha : PA X [a, b] (tMA X.K cl W g)) (hs : starEach [a, b] X.env = [(false, eval a X.env), (false, eval b X.env)] := by rfl) (hs2 : starEach [b] X.env = [(false, eval b X.env)] := by rfl) : PI X tg (.Call (.Name "range" p) [a, b] [] pos) (tW X.K cl W (mwR2 g)) :=
  (pi_range2 hg hm ha hs hs2).imp fun σ H R ⟨ρ, st, σp, S, rs, h⟩ => ⟨ρ, st, σp, S, rs, Res.post.imp (Res.post.bind h) (fun xs st1 ρ1 H1 l1 e1 S1 h1 vs rv => by
    split at h1
    · next i j =>
      split at h1
      · next hb =>
        cases rv with
        | cons r1 rr =>
          cases rr with
          | cons r2 rr =>
            cases rr
            cases r1
            cases r2
            exact ⟨_, _, rfl, ⟨(big62_of hb.1).1, (big62_of hb.1).2, (big62_of hb.2).1, (big62_of hb.2).2⟩, Res.post.now S1 h1 _ it_rng⟩
      · exact h1.elim
    · exact h1.elim) fun _ _ _ z => z⟩
theorem mw_range3 (hg : Gl X "range") (hm : X.mg "range" = none) (ha : PA X [a, b, c] (tMA X.K cl W g)) (hs : starEach [a, b, c] X.env = (false, eval a X.env) :: starEach [b, c] X.env := by rfl) (hpl : (backTo pos (starEach [b, c] X.env)).any (·.1) = false := by rfl) : PI X tg (.Call (.Name "range" p) [a, b, c] [] pos) (tW X.K cl W (mwR3 g)) :=
  (pi_range3 hg hm ha hs hpl).imp fun σ H R ⟨ρ, st, σp, S, rs, h⟩ => ⟨ρ, st, σp, S, rs, Res.post.imp (Res.post.bind h) (fun xs st1 ρ1 H1 l1 e1 S1 h1 vs rv => by
    split at h1
    · next i j k =>
      split at h1
      · next hb =>
        obtain ⟨b1, b2, b3, b4⟩ := hb
        cases rv with
        | cons r1 rr =>
          cases rr with
          | cons r2 rr =>
            cases rr with
            | cons r3 rr =>
              cases rr
              cases r1
              cases r2
              cases r3
              exact ⟨_, _, _, (Builtin.Range.rangeSize i j k).toNat, rfl, ⟨b1, b2, b3, by omega⟩, Res.post.now S1 h1 _ it_rngC⟩
      · exact h1.elim
    · exact h1.elim) fun _ _ _ z => z⟩
def mwEnum (g : MEs) : MW := fun σ st => (g σ st).bind fun xs st1 => match xs with
  | [x] => match lstOf2 x st1 with
    | some (ys, gd) => .ok (enumP ys, gd) st1
    | none => .stuck
  | _ => .stuck
theorem mw_enum (hg : Gl X "enumerate") (hm : X.mg "enumerate" = none) (ha : PA X [e] (tMA X.K cl W g)) (hs : starEach [e] X.env = [(false, eval e X.env)] := by rfl) : PI X (.Tuple elts kk tpos) (.Call (.Name "enumerate" p) [e] [] pos) (tW X.K cl W (mwEnum g)) :=
  (pi_enum hg hm ha hs).imp fun σ H R ⟨ρ, st, σp, S, rs, h⟩ => ⟨ρ, st, σp, S, rs, Res.post.imp (Res.post.bind h) (fun xs st1 ρ1 H1 l1 e1 S1 h1 vs rv => by
    split at h1
    · split at h1
      · next eq =>
        cases rv with
        | cons r1 rr =>
          cases rr
          obtain ⟨a, rfl, k⟩ := seq_sq eq r1 S1
          obtain ⟨ws, q, _⟩ := k _ _ _ (Le.refl _) (Ext.refl _) S1 (seq_chk eq)
          exact ⟨a, ws, rfl, q, Res.post.now S1 h1 _ (it_enum eq r1 S1)⟩
      · exact h1.elim
    · exact h1.elim) fun _ _ _ z => z⟩
def mwZip (g : MEs) : MW := fun σ st => (g σ st).bind fun xs st1 => match xs with
  | [x, y] => match lstOf2 x st1, lstOf2 y st1 with
    | some (xs, gd), some (ys, gd2) => .ok (zipP xs ys, gd ++ gd2) st1
    | _, _ => .stuck
  | _ => .stuck
theorem mw_zip (hg : Gl X "zip") (hm : X.mg "zip" = none) (ha : PA X [a, b] (tMA X.K cl W g)) (hs : starEach [a, b] X.env = (false, eval a X.env) :: starEach [b] X.env := by rfl) (hpl : (backTo pos (starEach [b] X.env)).any (·.1) = false := by rfl) : PI X (.Tuple elts kk tpos) (.Call (.Name "zip" p) [a, b] [] pos) (tW X.K cl W (mwZip g)) :=
  (pi_zip hg hm ha hs hpl).imp fun σ H R ⟨ρ, st, σp, S, rs, h⟩ => ⟨ρ, st, σp, S, rs, Res.post.imp (Res.post.bind h) (fun xs st1 ρ1 H1 l1 e1 S1 h1 vs rv => by
    split at h1
    · split at h1
      · next eq eq2 =>
        cases rv with
        | cons r1 rr =>
          cases rr with
          | cons r2 rr =>
            cases rr
            obtain ⟨a, rfl, k⟩ := seq_sq eq r1 S1
            obtain ⟨b, rfl, k2⟩ := seq_sq eq2 r2 S1
            obtain ⟨ws, q, _⟩ := k _ _ _ (Le.refl _) (Ext.refl _) S1 (seq_chk eq)
            obtain ⟨ws2, q2, _⟩ := k2 _ _ _ (Le.refl _) (Ext.refl _) S1 (seq_chk eq2)
            exact ⟨a, b, ws, ws2, rfl, q, q2, Res.post.now S1 h1 _ (it_zip eq r1 eq2 r2 S1)⟩
      · exact h1.elim
    · exact h1.elim) fun _ _ _ z => z⟩

def ResS.loop (r : ResS) (k : MS) : ResS := match r with
  | .nx σ s => k σ s
  | .ct σ s => k σ s
  | .bk σ s => .nx σ s
  | .rt v s => .rt v s
  | .err e σ s => .err e σ s
  | .stuck => .stuck
def forGo (gd : Gd) (g : MG) (b : MS) : List PV → MS
  | [], σ, st => if chk gd st = true then .nx σ st else .stuck
  | x :: xs, σ, st => if chk gd st = true then (match g x σ with
    | some σ2 => (b σ2 st).loop (forGo gd g b xs)
    | none => .stuck) else .stuck
def sFor (w : MW) (g : MG) (b : MS) : MS := fun σ st => (w σ st).toS σ fun p st1 => forGo p.2 g b p.1 σ st1
theorem loop_post {K : PySem.W.Frag} {ρ : Rho} {H : Hp} {r : ResS} {k : MS} {D : Ends} {N : L2.St → Hp → Prop} (h : (r.loop k).post K cl ρ H D W) (hN : ∀ ρ' H' σ' σp st, Le ρ ρ' → Ext K H H' → Sim K cl ρ' st H' → RelS K ρ' H' σp σ' → (k σp st).post K cl ρ' H' D W → N σ' H') :
    r.post K cl ρ H { D with nx := N, ct := N, bk := D.nx } W := by
  cases r with
  | nx σ s => exact fun ρ2 H2 σ2 l2 e2 s2 r2 => hN ρ2 H2 σ2 σ s l2 e2 s2 r2 (ResS.post.mono h l2 e2)
  | ct σ s => exact fun ρ2 H2 σ2 l2 e2 s2 r2 => hN ρ2 H2 σ2 σ s l2 e2 s2 r2 (ResS.post.mono h l2 e2)
  | bk σ s => exact h
  | rt v s => exact h
  | err e σ s => exact h
  | stuck => exact h
theorem ms_for {w : MW} {mg : MG} {vs : List Nat} {body : List Stmt} {s1 : MS} (hp : PassesOwn (model X.prog X.w) X.A X.env X.xe) (hc : X.calm = true) (hi : PI X tg iter (tW X.K cl W w)) (hg : PG X tg (tMG X.K vs mg)) (hb : PSs X body (tMS X.K cl W s1))
    (hs : ∀ x, foldedSetIterable iter X.env x = pure x := by intro _; rfl) : PS X (.For tg iter body [] pos) (tMS X.K cl W (sFor w mg s1)) :=
  (ps_for hp hc hi hg hb hs).imp fun D σ H ⟨ρ, st, σp, S, rs, h⟩ => by
    refine ⟨ρ, st, σp, S, rs, Res.post.imp (toS_post rs h) (fun p st1 ρ1 H1 l1 e1 S1 h1 J ok => ?_) fun _ _ _ z => z⟩
    obtain ⟨xs, gd⟩ := p
    have ok : ItOk X.K cl J xs gd ρ1 H1 := ok
    have h1 : (forGo gd mg s1 xs σp st1).post X.K cl ρ1 H1 D W := h1
    refine ⟨fun i m σ H => m + i = xs.length + 1 ∧ ∃ ρ2 st2 σ2, Le ρ1 ρ2 ∧ Ext X.K H1 H ∧ Sim X.K cl ρ2 st2 H ∧ RelS X.K ρ2 H σ2 σ ∧ (forGo gd mg s1 (xs.drop i) σ2 st2).post X.K cl ρ2 H D W, ⟨xs.length + 1, rfl, ρ1, st1, σp, Le.refl _, Ext.refl _, S1, rs.mono l1 e1, h1⟩, ?_⟩
    rintro i m σ2 H2 ⟨hm, ρ2, st2, σp2, l2, e2, S2, rs2, h2⟩
    by_cases hi : i < xs.length
    · rw [List.drop_eq_getElem_cons hi] at h2
      unfold forGo at h2
      split at h2
      · next hck =>
        obtain ⟨go, step⟩ := (ok ρ2 st2 H2 l2 e2 S2 hck).2 i xs[i] (List.getElem?_eq_getElem hi)
        split at h2
        · next σp3 hg3 =>
          refine .inr ⟨go, fun σ' H' => ∃ ρ' st' σp', Le ρ1 ρ' ∧ Ext X.K H1 H' ∧ Sim X.K cl ρ' st' H' ∧ RelS X.K ρ' H' σp' σ' ∧ (forGo gd mg s1 (xs.drop (i + 1)) σp' st').post X.K cl ρ' H' D W, fun σ' H' ⟨ρ', st', σp', a1, a2, a3, a4, a5⟩ => ⟨m - 1, by omega, by omega, ρ', st', σp', a1, a2, a3, a4, a5⟩, fun v H3 y => ?_⟩
          obtain ⟨e3, S3, rv⟩ := step v H3 y
          refine ⟨ρ2, σp2, xs[i], rs2.mono (Le.refl _) e3, rv, σp3, hg3, fun σ4 rs4 _ => ⟨ρ2, st2, σp3, S3, rs4, ?_⟩⟩
          exact loop_post (ResS.post.mono h2 (Le.refl _) e3) fun ρ' H' σ' σp' st' l' e' S' r' h' => ⟨ρ', st', σp', l2.trans l', (e2.trans e3).trans e', S', r', h'⟩
        · exact h2.elim
      · exact h2.elim
    · rw [List.drop_eq_nil_of_le (by omega)] at h2
      unfold forGo at h2
      split at h2
      · next hck => exact .inl ⟨(ok ρ2 st2 H2 l2 e2 S2 hck).1 i (by omega), nx_now S2 rs2 h2⟩
      · exact h2.elim

def whGo (c : MT) (b : MS) : Nat → MS
  | 0, _, _ => .stuck
  | n + 1, σ, st => (c σ st).toS σ fun t st1 => if t = true then (b σ st1).loop (whGo c b n) else .nx σ st1
def sWhile (n : Nat) (c : MT) (b : MS) : MS := fun σ st => whGo c b n σ st
theorem ms_while {n : Nat} {body : List Stmt} {s1 : MS} (hp : PassesOwn (model X.prog X.w) X.A X.env X.xe) (hc : PT X c (tMT X.K cl W ga)) (hb : PSs X body (tMS X.K cl W s1)) : PS X (.While c body [] pos) (tMS X.K cl W (sWhile n ga s1)) :=
  (ps_while hp hc hb).imp fun D σ H ⟨ρ, st, σp, S, rs, h⟩ => by
    refine ⟨fun m σ H => ∃ ρ2 st2 σ2, Sim X.K cl ρ2 st2 H ∧ RelS X.K ρ2 H σ2 σ ∧ (whGo ga s1 m σ2 st2).post X.K cl ρ2 H D W, ⟨n, ρ, st, σp, S, rs, h⟩, ?_⟩
    rintro m σ2 H2 ⟨ρ2, st2, σp2, S2, rs2, h2⟩
    cases m with
    | zero => exact h2.elim
    | succ m =>
      unfold whGo at h2
      refine ⟨ρ2, st2, σp2, S2, rs2, Res.post.imp (toS_post rs2 h2) (fun t st3 ρ3 H3 l3 e3 S3 h3 => ?_) fun _ _ _ z => z⟩
      cases t with
      | false => exact iteF (nx_now S3 (rs2.mono l3 e3) h3)
      | true =>
        refine iteT ⟨fun σ' H' => ∃ ρ' st' σp', Sim X.K cl ρ' st' H' ∧ RelS X.K ρ' H' σp' σ' ∧ (whGo ga s1 m σp' st').post X.K cl ρ' H' D W, fun σ' H' z => ⟨m, Nat.lt_succ_self m, z⟩, ρ3, st3, σp2, S3, rs2.mono l3 e3, ?_⟩
        have h3 : ((s1 σp2 st3).loop (whGo ga s1 m)).post X.K cl ρ3 H3 D W := h3
        exact loop_post h3 fun ρ' H' σ' σp' st' l' e' S' r' h' => ⟨ρ', st', σp', S', r', h'⟩

theorem mut_of {K : PySem.W.Frag} {ρ : Rho} {H : Hp} {kvs : List (PV × PV)} {u : HO} (h : RelD K ρ H kvs u) : Mut (some u) ∧ NotSeq (.frz default u) ∧ Soft u := by
  rcases h with ⟨vs, rfl, _⟩ | ⟨_, vs, rfl, _⟩
  · exact ⟨trivial, trivial, trivial⟩
  · exact ⟨trivial, trivial, trivial⟩
theorem notSeq_frz {K : PySem.W.Frag} {ρ : Rho} {H : Hp} {kvs : List (PV × PV)} {u : HO} {od : Obj} (h : RelD K ρ H kvs u) : NotSeq (.frz od u) := by
  rcases h with ⟨vs, rfl, _⟩ | ⟨_, vs, rfl, _⟩
  · trivial
  · trivial
theorem soft_of {K : PySem.W.Frag} {ρ : Rho} {H : Hp} {kvs : List (PV × PV)} {u : HO} (h : RelD K ρ H kvs u) : Soft u := by
  rcases h with ⟨vs, rfl, _⟩ | ⟨_, vs, rfl, _⟩
  · trivial
  · trivial
/-- locked: the store's object, then the heap's -/
theorem Sim.lock {K : PySem.W.Frag} {ρ : Rho} {H : Hp} {st : Sto} {n : Nat} {d : Addr} {kvs : List (PV × PV)} {u : HO} (S : Sim K cl ρ st H) (hr : ρ n = some d) (hu : H d = some u) (r : RelD K ρ H kvs u) (od : Obj) :
    Ext K H (upd H d (.frz od u)) ∧ Sim K cl ρ (st.set n (.dct kvs true)) (upd H d (.frz od u)) := by
  have ex : Ext K H (upd H d (.frz od u)) := Ext.write hu (soft_of r)
  exact ⟨ex, S.write hr hu (soft_of r).notSeq ⟨u, r.monoW (Le.refl _) ex.w, by rw [if_pos rfl]; exact ⟨od, upd_same⟩⟩⟩
/-- .. and unlocked -/
theorem Sim.unlock {K : PySem.W.Frag} {ρ ρ1 : Rho} {H H1 : Hp} {st : Sto} {n : Nat} {d : Addr} {kvs : List (PV × PV)} {u : HO} {od : Obj} (S : Sim K cl ρ1 st H1) (hr : ρ1 n = some d) (hu : H1 d = some (.frz od u)) (r : RelD K ρ H kvs u) (l : Le ρ ρ1) (e : ExtW K H H1) :
    ExtW K H1 (upd H1 d u) ∧ Sim K cl ρ1 (st.set n (.dct kvs false)) (upd H1 d u) := by
  have ex : ExtW K H1 (upd H1 d u) := ExtW.write hu (notSeq_frz r)
  exact ⟨ex, S.write hr hu (notSeq_frz r) ⟨u, r.monoW l (e.trans ex), by rw [if_neg Bool.false_ne_true]; exact upd_same⟩⟩
/-- from before the lock to behind it -/
theorem Ext.through {K : PySem.W.Frag} {H H1 : Hp} {d : Addr} {u : HO} {od : Obj} {ρ : Rho} {kvs : List (PV × PV)} (hu : H d = some u) (r : RelD K ρ H kvs u) (e : Ext K (upd H d (.frz od u)) H1) (h1 : H1 d = some (.frz od u)) : Ext K H (upd H1 d u) := by
  have e0 : Ext K H (upd H d (.frz od u)) := Ext.write hu (soft_of r)
  refine ⟨(e0.w.trans e.w).trans (ExtW.write h1 (notSeq_frz r)), fun a o v q => ?_⟩
  have ne : a ≠ d := fun z => by
    subst z
    rw [hu] at q
    cases q
    exact absurd (soft_of r) (fun s => s)
  rw [upd_ne ne]
  exact (e0.trans e).frz a o v q
def Res.unl {α : Type} (r : Res α) (f : Sto → Sto) : Res α := match r with
  | .ok a s => .ok a (f s)
  | .err e s => .err e s
  | .stuck => .stuck
def ResS.unl (r : ResS) (f : Sto → Sto) : ResS := match r with
  | .nx σ s => .nx σ (f s)
  | .ct σ s => .ct σ (f s)
  | .bk σ s => .bk σ (f s)
  | .rt v s => .rt v (f s)
  | .err e σ s => .err e σ s
  | .stuck => .stuck
/-- the dicts at ids locked, one after another -/
def lockE {α : Type} (f : Sto → Res α) : List Nat → Sto → Res α
  | [], st => f st
  | n :: r, st => match st.get n with
    | some (.dct kvs false) => (lockE f r (st.set n (.dct kvs true))).unl fun s => s.set n (.dct kvs false)
    | _ => lockE f r st
/-- locks, one after another -/
inductive LockN (t : TE) : L2.St → Hp → VK → Prop
  | here {σ : L2.St} {H : Hp} {Q : VK} (h : t σ H Q) : LockN t σ H Q
  | lock {σ : L2.St} {H : Hp} {Q : VK} (d : Addr) (u : HO) (hd : H d = some u) (mu : Mut (some u)) (h : ∀ od, LockN t σ (upd H d (.frz od u)) fun v H' => H' d = some (.frz od u) ∧ Q v (upd H' d u)) : LockN t σ H Q
theorem pe_lockN {t : TE} (he : PE X e t) : PE X e (LockN t) := by
  refine ⟨fun pins s σ H Q I h => ?_⟩
  induction h generalizing s with
  | here h => exact he.run pins s _ _ _ I h
  | lock d u hd mu h ih =>
    obtain ⟨od, I1⟩ := I.lock hd mu
    refine thn (ih od s I1) fun v s1 ⟨x, H1, I2, r, e2, q⟩ => ?_
    exact ⟨x, _, I2.unlock e2 (I.nofrz hd mu), r, q⟩
def mLock (ids : Sl → Sto → List Nat) (f : ME) : ME := fun σ st => lockE (f σ) (ids σ st) st
theorem lockE_go {f : ME} {σp : Sl} {σ : L2.St} : ∀ (ids : List Nat) (ρ : Rho) (st : Sto) (H : Hp) (Q : VK), Sim X.K cl ρ st H → RelS X.K ρ H σp σ → (lockE (f σp) ids st).post X.K cl ρ H (Val X.K Q) (fun C d H' => W C d σ H') → LockN (tM X.K cl W f) σ H Q
  | [], ρ, st, H, Q, S, rs, h => .here ⟨ρ, st, σp, S, rs, h⟩
  | n :: r, ρ, st, H, Q, S, rs, h => by
    unfold lockE at h
    split at h
    · next kvs eq =>
      obtain ⟨d, hr, u, rd, hu⟩ := S.obj _ _ eq
      rw [if_neg Bool.false_ne_true] at hu
      refine .lock d u hu (mut_of rd).1 fun od => ?_
      obtain ⟨ex, S1⟩ := S.lock hr hu rd od
      refine lockE_go r ρ _ _ _ S1 (rs.mono (Le.refl _) ex) ?_
      cases q : lockE (f σp) r (st.set n (.dct kvs true)) with
      | err z s => rw [q] at h; exact fun ρ1 H1 C d l1 e1 s1 x1 => h ρ1 H1 C d l1 (ex.trans e1) s1 x1
      | stuck => rw [q] at h; exact h.elim
      | ok x s =>
        rw [q] at h
        intro ρ1 H1 l1 e1 s1 v rv
        have h1 := e1.frz d od u upd_same
        obtain ⟨ex2, S2⟩ := Sim.unlock s1 (l1 _ _ hr) h1 rd l1 (ex.w.trans e1.w)
        exact ⟨h1, h ρ1 _ l1 (Ext.through hu rd e1 h1) S2 v (rv.monoW (Le.refl _) ex2)⟩
    · exact lockE_go r ρ st H Q S rs h
theorem me_lock {f : ME} (ids : Sl → Sto → List Nat) (he : PE X e (tM X.K cl W f)) : PE X e (tM X.K cl W (mLock ids f)) :=
  (pe_lockN he).imp fun σ H Q ⟨ρ, st, σp, S, rs, h⟩ => lockE_go (ids σp st) ρ st H Q S rs h
/-- the dict that an expression's value is, and the dicts among its values -/
def idE (fe : ME) : Sl → Sto → List Nat := fun σ st => match fe σ st with
  | .ok (.ref n) _ => [n]
  | _ => []
def refs (xs : List PV) : List Nat := xs.filterMap fun x => match x with
  | .ref n => some n
  | _ => none
def idE2 (fe : ME) : Sl → Sto → List Nat := fun σ st => match fe σ st with
  | .ok (.ref n) _ => (match st.get n with
    | some (.dct kvs _) => n :: refs (kvs.map (·.2))
    | some (.lst xs) => refs xs
    | _ => [n])
  | .ok (.tup xs) _ => refs xs
  | _ => []
/-- a statement under one lock -/
def sLock (fe : ME) (f : MS) : MS := fun σ st => match fe σ st with
  | .ok (.ref n) _ => (match st.get n with
    | some (.dct kvs false) => (f σ (st.set n (.dct kvs true))).unl fun s => s.set n (.dct kvs false)
    | _ => f σ st)
  | _ => f σ st
theorem ms_lock {st0 : Stmt} {s1 : MS} (fe : ME) (h : PS X st0 (tMS X.K cl W s1)) : PS X st0 (tMS X.K cl W (sLock fe s1)) := by
  have hor : PS X st0 (fun D σ H => tMS X.K cl W s1 D σ H ∨ tLock (tMS X.K cl W s1) D σ H) := ⟨fun pins s σ H D I q => q.elim (h.run pins s σ H D I) ((ps_lock h).run pins s σ H D I)⟩
  refine hor.imp fun D σ H ⟨ρ, st, σp, S, rs, h⟩ => ?_
  unfold sLock at h
  split at h
  · next n _ _ =>
    split at h
    · next kvs eq =>
      obtain ⟨d, hr, u, rd, hu⟩ := S.obj _ _ eq
      rw [if_neg Bool.false_ne_true] at hu
      refine .inr ⟨d, u, hu, (mut_of rd).1, fun od => ?_⟩
      obtain ⟨ex, S1⟩ := S.lock hr hu rd od
      refine ⟨ρ, _, σp, S1, rs.mono (Le.refl _) ex, ?_⟩
      have go : ∀ {ρ1 : Rho} {H1 : Hp} {s : Sto} (l1 : Le ρ ρ1) (e1 : Ext X.K (upd H d (.frz od u)) H1) (s1 : Sim X.K cl ρ1 s H1),
          H1 d = some (.frz od u) ∧ ExtW X.K H1 (upd H1 d u) ∧ Ext X.K H (upd H1 d u) ∧ Sim X.K cl ρ1 (s.set n (.dct kvs false)) (upd H1 d u) := fun {ρ1 H1 s} l1 e1 s1 => by
        have h1 := e1.frz d od u upd_same
        obtain ⟨ex2, S2⟩ := Sim.unlock s1 (l1 _ _ hr) h1 rd l1 (ex.w.trans e1.w)
        exact ⟨h1, ex2, Ext.through hu rd e1 h1, S2⟩
      cases q : s1 σp (st.set n (.dct kvs true)) with
      | nx σ2 s =>
        rw [q] at h
        intro ρ1 H1 σ3 l1 e1 s1 r1
        obtain ⟨h1, ex2, e3, S2⟩ := go l1 e1 s1
        exact ⟨h1, h ρ1 _ σ3 l1 e3 S2 (r1.monoW (Le.refl _) ex2)⟩
      | ct σ2 s =>
        rw [q] at h
        intro ρ1 H1 σ3 l1 e1 s1 r1
        obtain ⟨h1, ex2, e3, S2⟩ := go l1 e1 s1
        exact ⟨h1, h ρ1 _ σ3 l1 e3 S2 (r1.monoW (Le.refl _) ex2)⟩
      | bk σ2 s =>
        rw [q] at h
        intro ρ1 H1 σ3 l1 e1 s1 r1
        obtain ⟨h1, ex2, e3, S2⟩ := go l1 e1 s1
        exact ⟨h1, h ρ1 _ σ3 l1 e3 S2 (r1.monoW (Le.refl _) ex2)⟩
      | rt v s =>
        rw [q] at h
        intro ρ1 H1 w l1 e1 s1 r1
        obtain ⟨h1, ex2, e3, S2⟩ := go l1 e1 s1
        exact ⟨h1, h ρ1 _ w l1 e3 S2 (r1.monoW (Le.refl _) ex2)⟩
      | err z σ2 s =>
        rw [q] at h
        exact fun ρ1 H1 C dd σ3 l1 e1 s1 r1 x1 => h ρ1 H1 C dd σ3 l1 (ex.trans e1) s1 r1 x1
      | stuck => rw [q] at h; exact h.elim
    · exact .inl ⟨ρ, st, σp, S, rs, h⟩
  · exact .inl ⟨ρ, st, σp, S, rs, h⟩
end
end MP
set_option Elab.async false
set_option linter.all false
set_option maxRecDepth 100000
set_option maxHeartbeats 2000000
namespace MP
open PySem PySem.Spec L2
theorem wipe_wipe {σ : L2.St} {vs : List Nat} : wipe (wipe σ vs) vs = wipe σ vs := by
  apply List.ext_getElem?
  intro j
  by_cases hj : j ∈ vs
  · by_cases hl : j < σ.length
    · rw [wipe_get hj (by rw [wipe_length]; exact hl), wipe_get hj hl]
    · rw [List.getElem?_eq_none (by rw [wipe_length, wipe_length]; omega), List.getElem?_eq_none (by rw [wipe_length]; omega)]
  · rw [wipe_out hj]
def Res.calm {α : Type} (r : Res α) : Res α := match r with
  | .err _ _ => .stuck
  | r => r
theorem calm_post {α : Type} {K : PySem.W.Frag} {cl : CT} {ρ : Rho} {H : Hp} {r : Res α} {P : α → Sto → Rho → Hp → Prop} {E E' : Value → Option Addr → Hp → Prop} (h : (Res.calm r).post K cl ρ H P E) : r.post K cl ρ H P E' := by
  cases r with
  | ok a s => exact h
  | err e s => exact h.elim
  | stuck => exact h
def cpGo (gd : Gd) (g : MG) (step : Sl → Sto → Res Unit) (σw : Sl) : List PV → Sto → Res Unit
  | [], st => if chk gd st = true then .ok () st else .stuck
  | x :: xs, st => if chk gd st = true then (match g x σw with
    | some σ2 => (step σ2 st).calm.bind fun _ st1 => cpGo gd g step σw xs st1
    | none => .stuck) else .stuck
section
variable {K : PySem.W.Frag} {cl : CT}
theorem cp_loop {J : It} {xs : List PV} {gd : Gd} {ρ1 : Rho} {H1 : Hp} {g : MG} {step : Sl → Sto → Res Unit} {σw : Sl} {st1 : Sto} {Fin : Hp → Prop} {E : Value → Option Addr → Hp → Prop} {Body : V → Hp → (Hp → Prop) → Prop}
    (ok : ItOk K cl J xs gd ρ1 H1) (S1 : Sim K cl ρ1 st1 H1) (h : (cpGo gd g step σw xs st1).post K cl ρ1 H1 (fun _ _ _ H' => Fin H') E)
    (hb : ∀ v H' Nx x ρ' st' σ2, Le ρ1 ρ' → Ext K H1 H' → Sim K cl ρ' st' H' → RelP K ρ' H' x v → g x σw = some σ2 → (step σ2 st').post K cl ρ' H' (fun _ _ _ H'' => Nx H'') (fun _ _ _ => False) → Body v H' Nx) :
    ∃ W : Nat → Nat → Hp → Prop, (∃ m, W 0 m H1) ∧ ∀ i m H, W i m H →
      (J.stop i H ∧ Fin H) ∨ (J.go i H ∧ ∃ Nx : Hp → Prop, (∀ H', Nx H' → ∃ m', m' < m ∧ W (i + 1) m' H') ∧ ∀ v H', J.yld i H v H' → Body v H' Nx) := by
  refine ⟨fun i m H => m + i = xs.length + 1 ∧ ∃ ρ2 st2, Le ρ1 ρ2 ∧ Ext K H1 H ∧ Sim K cl ρ2 st2 H ∧ (cpGo gd g step σw (xs.drop i) st2).post K cl ρ2 H (fun _ _ _ H' => Fin H') E, ⟨xs.length + 1, rfl, ρ1, st1, Le.refl _, Ext.refl _, S1, h⟩, ?_⟩
  rintro i m H2 ⟨hm, ρ2, st2, l2, e2, S2, h2⟩
  by_cases hi : i < xs.length
  · rw [List.drop_eq_getElem_cons hi] at h2
    unfold cpGo at h2
    split at h2
    · next hck =>
      obtain ⟨go, stp⟩ := (ok ρ2 st2 H2 l2 e2 S2 hck).2 i xs[i] (List.getElem?_eq_getElem hi)
      split at h2
      · next σ2 hg2 =>
        refine .inr ⟨go, fun H' => ∃ ρ' st', Le ρ1 ρ' ∧ Ext K H1 H' ∧ Sim K cl ρ' st' H' ∧ (cpGo gd g step σw (xs.drop (i + 1)) st').post K cl ρ' H' (fun _ _ _ H' => Fin H') E, fun H' ⟨ρ', st', a1, a2, a3, a4⟩ => ⟨m - 1, by omega, by omega, ρ', st', a1, a2, a3, a4⟩, fun v H3 y => ?_⟩
        obtain ⟨e3, S3, rv⟩ := stp v H3 y
        refine hb v H3 _ xs[i] ρ2 st2 σ2 l2 (e2.trans e3) S3 rv hg2 ?_
        exact Res.post.imp (calm_post (Res.post.bind (Res.post.mono h2 (Le.refl _) e3))) (fun _ st' ρ' H' l' e' S' h' => ⟨ρ', st', l2.trans l', (e2.trans e3).trans e', S', h'⟩) fun _ _ _ z => z
      · exact h2.elim
    · exact h2.elim
  · rw [List.drop_eq_nil_of_le (by omega)] at h2
    unfold cpGo at h2
    split at h2
    · next hck => exact .inl ⟨(ok ρ2 st2 H2 l2 e2 S2 hck).1 i (by omega), Res.post.now S2 h2⟩
    · exact h2.elim
end
def appD (D : Nat) (y : PV) (st : Sto) : Res Unit := match st.get D with
  | some (.lst acc) => if acc.length < sizeLine then .ok () (st.set D (.lst (acc ++ [y]))) else .stuck
  | _ => .stuck
def lcStep (ft : MT) (fe : ME) (D : Nat) : Sl → Sto → Res Unit := fun σ st => (ft σ st).bind fun b st1 => if b = true then (fe σ st1).bind fun y st2 => appD D y st2 else .ok () st1
def mLc (w : MW) (g : MG) (ft : MT) (fe : ME) (vs : List Nat) : ME := fun σ st => (w σ st).bind fun p st1 =>
  (cpGo p.2 g (lcStep ft fe st1.nx) (wipeP σ vs) p.1 (st1.add (.lst []))).bind fun _ st2 => .ok (.ref st1.nx) st2
def lc2Step (ft : MT) (w1 : MW) (g1 : MG) (vs1 : List Nat) (st1 : Sl → Sto → Res Unit) : Sl → Sto → Res Unit := fun σ st => (ft σ st).bind fun b s1 => if b = true then (w1 σ s1).bind fun p s2 => cpGo p.2 g1 st1 (wipeP σ vs1) p.1 s2 else .ok () s1
def mLc2 (w : MW) (g : MG) (ft : MT) (w1 : MW) (g1 : MG) (ft1 : MT) (fe : ME) (vs vs1 : List Nat) : ME := fun σ st => (w σ st).bind fun p st1 =>
  (cpGo p.2 g (lc2Step ft w1 g1 vs1 (lcStep ft1 fe st1.nx)) (wipeP σ vs) p.1 (st1.add (.lst []))).bind fun _ st2 => .ok (.ref st1.nx) st2
abbrev W0 : WX := fun _ _ _ _ => False
section
variable {X : Cx} {cl : CT} {W : WX} {elt tg iter tg1 iter1 : Expr} {ifs ifs1 : List Expr} {scope : Scope} {own : List (Str × Nat)} {pos spos py : Pos} {w w1 : MW} {mg mg1 : MG} {ft ft1 : MT} {fe fk : ME} {vs1 : List Nat}
def mtYes : MT := fun _ st => .ok true st
theorem mts_nil : PTs X [] (tMT X.K cl W mtYes) := ⟨fun pins s σ H Q I ⟨ρ, st, σp, S, rs, h⟩ => pts_nil.run pins s σ H Q I (Res.post.now S h)⟩
theorem mts_one {c : Expr} (h : PT X c (tMT X.K cl W ft)) : PTs X [c] (tMT X.K cl W ft) := pts_one h
/-- an item joins the list at D -/
theorem app_post {K : PySem.W.Frag} {ρ : Rho} {H : Hp} {st : Sto} {Dn : Nat} {D : Addr} {y : PV} {v : V} {Nx : Hp → Prop} {E : Value → Option Addr → Hp → Prop} (S : Sim K cl ρ st H) (hr : ρ Dn = some D) (ry : RelP K ρ H y v)
    (h : (appD Dn y st).post K cl ρ H (fun _ _ _ H' => Nx H') E) : ∃ acc, H D = some (.lst acc) ∧ acc.length < sizeLine ∧ Nx (upd H D (.lst (acc ++ [v]))) := by
  unfold appD at h
  split at h
  · next acc e =>
    split at h
    · next hl =>
      obtain ⟨vs, q, r⟩ := S.at_ hr e
      refine ⟨vs, q, by rw [← r.length]; exact hl, ?_⟩
      have ex : Ext K H (upd H D (.lst (vs ++ [v]))) := Ext.write q trivial
      exact h ρ _ (Le.refl _) ex (S.write hr q trivial ⟨_, upd_same, (r.append (.cons ry .nil)).mono (Le.refl _) ex⟩)
    · exact h.elim
  · exact h.elim
/-- a new empty list at D -/
theorem new_list {K : PySem.W.Frag} {ρ : Rho} {H : Hp} {st : Sto} {D : Addr} (S : Sim K cl ρ st H) (hD : H D = none) : Le ρ (ρ.put st.nx D) ∧ Ext K H (upd H D (.lst [])) ∧ Sim K cl (ρ.put st.nx D) (st.add (.lst [])) (upd H D (.lst [])) :=
  ⟨S.le_put D, Ext.new hD, S.new hD ⟨[], upd_same, .nil⟩⟩
theorem ItOk.later {K : PySem.W.Frag} {J : It} {xs : List PV} {gd : Gd} {ρ ρ' : Rho} {H H' : Hp} (h : ItOk K cl J xs gd ρ H) (l : Le ρ ρ') (e : Ext K H H') : ItOk K cl J xs gd ρ' H' := fun ρ2 st H2 l2 e2 => h ρ2 st H2 (l.trans l2) (e.trans e2)
theorem lc_go {σ : L2.St} {H : Hp} {Q : VK} {vs : List Nat} (h : tM X.K cl W (mLc w mg ft fe vs) σ H Q) : tLc (tW X.K cl W w) (tMG X.K vs mg) (tMT X.K cl W0 ft) (tM X.K cl W0 fe) vs σ H Q := by
  obtain ⟨ρ, st, σp, S, rs, h⟩ := h
  refine ⟨ρ, st, σp, S, rs, Res.post.imp (Res.post.bind h) (fun p st1 ρ1 H1 l1 e1 S1 h1 J ok D hD => ?_) fun _ _ _ z => z⟩
  obtain ⟨l2, e2, S2⟩ := new_list S1 hD
  have hD2 : (ρ1.put st1.nx D) st1.nx = some D := Rho.put_same
  have h2 := Res.post.bind (Res.post.mono h1 l2 e2)
  refine cp_loop (Fin := fun H => Q (.ref D) H) (ok.later l2 e2) S2 (Res.post.imp h2 (fun _ st' ρ' H' l' e' S' h' => Res.post.now S' h' _ (.ref (l' _ _ hD2))) fun _ _ _ z => z) ?_
  intro v H3 Nx x ρ3 st3 σ3 l3 e3 S3 rv hg3 h3
  refine ⟨ρ3, wipeP σp vs, x, ((rs.mono (l1.trans l2) (e1.trans e2)).mono l3 e3).wipe vs, rv, σ3, hg3, fun σ4 rs4 hw4 => ⟨by rw [hw4, wipe_wipe], ρ3, st3, σ3, S3, rs4, ?_⟩⟩
  refine Res.post.imp (Res.post.bind h3) (fun b st4 ρ4 H4 l4 e4 S4 h4 => ?_) fun _ _ _ z => z
  cases b with
  | false => exact iteF (Res.post.now S4 h4)
  | true =>
    refine iteT ⟨ρ4, st4, σ3, S4, rs4.mono l4 e4, Res.post.imp (Res.post.bind h4) (fun y st5 ρ5 H5 l5 e5 S5 h5 u ru => ?_) fun _ _ _ z => z⟩
    exact app_post S5 (l5 _ _ (l4 _ _ (l3 _ _ hD2))) ru h5
theorem me_lc (hc : X.calm = true) (hN : X.N.Nodup) (hi : PI X tg iter (tW X.K cl W w)) (ok : BlkOk X.N X.env.scope scope own)
    (hg : ∀ (s : Shared) (H : Hp) (C : Addr) (cc : List (Str × Addr)) (fp : List Addr), PG (X.blk s H scope (compEnvC scope cc C X.env) fp) tg (tMG X.K (own.map (·.2)) mg))
    (ht : ∀ (s : Shared) (H : Hp) (C : Addr) (cc : List (Str × Addr)) (fp : List Addr), PTs (X.blk s H scope (compEnvC scope cc C X.env) fp) ifs (tMT X.K cl W0 ft))
    (he : ∀ (s : Shared) (H : Hp) (C : Addr) (cc : List (Str × Addr)) (fp : List Addr), PE (X.blk s H scope (compEnvC scope cc C X.env) fp) elt (tM X.K cl W0 fe)) (hs : ∀ x, foldedSetIterable iter X.env x = pure x := by intro _; rfl) :
    PE X (.ListComp elt [⟨tg, iter, ifs, 0⟩] scope pos) (tM X.K cl W (mLc w mg ft fe (own.map (·.2)))) :=
  (pe_lc hc hN hi ok hg ht he hs).imp fun σ H Q h => lc_go h
theorem ms_setLc {i : Nat} {y : Str} (hc : X.calm = true) (hN : X.N.Nodup) (hy : X.N[i]? = some y) (hyl : X.env.scope.names.lookup y = some .local) (hsw : swapsWith (.ListComp elt [⟨tg, iter, ifs, 0⟩] scope pos) (some (.Name y py)) spos.line X.env = pure true)
    (hi : PI X tg iter (tW X.K cl W w)) (ok : BlkOk X.N X.env.scope scope own)
    (hg : ∀ (s : Shared) (H : Hp) (C : Addr) (cc : List (Str × Addr)) (fp : List Addr), PG (X.blk s H scope (compEnvC scope cc C X.env) fp) tg (tMG X.K (own.map (·.2)) mg))
    (ht : ∀ (s : Shared) (H : Hp) (C : Addr) (cc : List (Str × Addr)) (fp : List Addr), PTs (X.blk s H scope (compEnvC scope cc C X.env) fp) ifs (tMT X.K cl W0 ft))
    (he : ∀ (s : Shared) (H : Hp) (C : Addr) (cc : List (Str × Addr)) (fp : List Addr), PE (X.blk s H scope (compEnvC scope cc C X.env) fp) elt (tM X.K cl W0 fe)) (hs : ∀ x, foldedSetIterable iter X.env x = pure x := by intro _; rfl) :
    PS X (.Assign [.Name y py] (.ListComp elt [⟨tg, iter, ifs, 0⟩] scope pos) spos) (tMS X.K cl W (sSet i (mLc w mg ft fe (own.map (·.2))))) :=
  (ps_setLc hc hN hy hyl hsw hi ok hg ht he hs).imp fun D σ H ⟨ρ, st, σp, S, rs, h⟩ =>
    lc_go (Q := fun x H1 => gName i x σ H1 D.nx) ⟨ρ, st, σp, S, rs, Res.post.imp (toS_post rs h) (fun x st1 ρ1 H1 l1 e1 S1 h1 v rv => nx_now S1 ((rs.mono l1 e1).set i rv) h1) fun _ _ _ z => z⟩
theorem lc2_go {σ : L2.St} {H : Hp} {Q : VK} {vs : List Nat} (h : tM X.K cl W (mLc2 w mg ft w1 mg1 ft1 fe vs vs1) σ H Q) : tLc2 (tW X.K cl W w) (tMG X.K vs mg) (tMT X.K cl W0 ft) (tW X.K cl W0 w1) (tMG X.K vs1 mg1) (tMT X.K cl W0 ft1) (tM X.K cl W0 fe) vs vs1 σ H Q := by
  obtain ⟨ρ, st, σp, S, rs, h⟩ := h
  refine ⟨ρ, st, σp, S, rs, Res.post.imp (Res.post.bind h) (fun p st1 ρ1 H1 l1 e1 S1 h1 J ok D hD => ?_) fun _ _ _ z => z⟩
  obtain ⟨l2, e2, S2⟩ := new_list S1 hD
  have hD2 : (ρ1.put st1.nx D) st1.nx = some D := Rho.put_same
  have h2 := Res.post.bind (Res.post.mono h1 l2 e2)
  refine cp_loop (Fin := fun H => Q (.ref D) H) (ok.later l2 e2) S2 (Res.post.imp h2 (fun _ st' ρ' H' l' e' S' h' => Res.post.now S' h' _ (.ref (l' _ _ hD2))) fun _ _ _ z => z) ?_
  intro v H3 Nx x ρ3 st3 σ3 l3 e3 S3 rv hg3 h3
  refine ⟨ρ3, wipeP σp vs, x, ((rs.mono (l1.trans l2) (e1.trans e2)).mono l3 e3).wipe vs, rv, σ3, hg3, fun σ4 rs4 hw4 => ⟨by rw [hw4, wipe_wipe], ρ3, st3, σ3, S3, rs4, ?_⟩⟩
  refine Res.post.imp (Res.post.bind h3) (fun b st4 ρ4 H4 l4 e4 S4 h4 => ?_) fun _ _ _ z => z
  cases b with
  | false => exact iteF (Res.post.now S4 h4)
  | true =>
    refine iteT ⟨ρ4, st4, σ3, S4, rs4.mono l4 e4, Res.post.imp (Res.post.bind h4) (fun p1 st5 ρ5 H5 l5 e5 S5 h5 J1 ok1 => ?_) fun _ _ _ z => z⟩
    refine cp_loop (Fin := Nx) ok1 S5 h5 ?_
    intro v6 H6 Nx1 x6 ρ6 st6 σ6 l6 e6 S6 rv6 hg6 h6
    refine ⟨ρ6, wipeP σ3 vs1, x6, (((rs4.mono l4 e4).mono l5 e5).mono l6 e6).wipe vs1, rv6, σ6, hg6, fun σ7 rs7 hw7 => ⟨by rw [hw7, wipe_wipe], ρ6, st6, σ6, S6, rs7, ?_⟩⟩
    refine Res.post.imp (Res.post.bind h6) (fun b st7 ρ7 H7 l7 e7 S7 h7 => ?_) fun _ _ _ z => z
    cases b with
    | false => exact iteF (Res.post.now S7 h7)
    | true =>
      refine iteT ⟨ρ7, st7, σ6, S7, rs7.mono l7 e7, Res.post.imp (Res.post.bind h7) (fun y st8 ρ8 H8 l8 e8 S8 h8 u ru => ?_) fun _ _ _ z => z⟩
      exact app_post S8 (l8 _ _ (l7 _ _ (l6 _ _ (l5 _ _ (l4 _ _ (l3 _ _ hD2)))))) ru h8
theorem me_lc2 (hc : X.calm = true) (hN : X.N.Nodup) (hi : PI X tg iter (tW X.K cl W w)) (ok : BlkOk X.N X.env.scope scope own) (hv : ∀ i ∈ vs1, i ∈ own.map (·.2))
    (hg : ∀ (s : Shared) (H : Hp) (C : Addr) (cc : List (Str × Addr)) (fp : List Addr), PG (X.blk s H scope (compEnvC scope cc C X.env) fp) tg (tMG X.K (own.map (·.2)) mg))
    (ht : ∀ (s : Shared) (H : Hp) (C : Addr) (cc : List (Str × Addr)) (fp : List Addr), PTs (X.blk s H scope (compEnvC scope cc C X.env) fp) ifs (tMT X.K cl W0 ft))
    (hi1 : ∀ (s : Shared) (H : Hp) (C : Addr) (cc : List (Str × Addr)) (fp : List Addr), PI (X.blk s H scope (compEnvC scope cc C X.env) fp) tg1 iter1 (tW X.K cl W0 w1))
    (hg1 : ∀ (s : Shared) (H : Hp) (C : Addr) (cc : List (Str × Addr)) (fp : List Addr), PG (X.blk s H scope (compEnvC scope cc C X.env) fp) tg1 (tMG X.K vs1 mg1))
    (ht1 : ∀ (s : Shared) (H : Hp) (C : Addr) (cc : List (Str × Addr)) (fp : List Addr), PTs (X.blk s H scope (compEnvC scope cc C X.env) fp) ifs1 (tMT X.K cl W0 ft1))
    (he : ∀ (s : Shared) (H : Hp) (C : Addr) (cc : List (Str × Addr)) (fp : List Addr), PE (X.blk s H scope (compEnvC scope cc C X.env) fp) elt (tM X.K cl W0 fe)) (hs : ∀ x, foldedSetIterable iter X.env x = pure x := by intro _; rfl) (hs1 : ∀ env x, foldedSetIterable iter1 env x = pure x := by intro _ _; rfl) :
    PE X (.ListComp elt [⟨tg, iter, ifs, 0⟩, ⟨tg1, iter1, ifs1, 0⟩] scope pos) (tM X.K cl W (mLc2 w mg ft w1 mg1 ft1 fe (own.map (·.2)) vs1)) :=
  (pe_lc2 hc hN hi ok hv hg ht hi1 hg1 ht1 he hs hs1).imp fun σ H Q h => lc2_go h
end
end MP
set_option Elab.async false
set_option linter.all false
set_option maxRecDepth 100000
set_option maxHeartbeats 2000000
namespace MP
open PySem PySem.Spec L2
abbrev PF := List PV → Sto → Option (PV × Sto)
/-- a built-in's reading by a pure function -/
def rG (K : PySem.W.Frag) (cl : CT) (g : PF) : List V → Hp → VK → Prop := fun vs H Q => ∃ ρ st xs v st', Sim K cl ρ st H ∧ RelPs K ρ H xs vs ∧ g xs st = some (v, st') ∧ (Res.ok v st').post K cl ρ H (Val K Q) NoE
def gOr (g1 g2 : PF) : PF := fun xs st => match g1 xs st with
  | some r => some r
  | none => g2 xs st
section
variable {X : Cx} {cl : CT} {W : WX} {f : Value} {g g1 g2 : PF}
theorem CR_or (h1 : CallR X f (rG X.K cl g1)) (h2 : CallR X f (rG X.K cl g2)) : CallR X f (rG X.K cl (gOr g1 g2)) := by
  intro pins s σ H xs us Q I r ⟨ρ, st, ys, v, st', S, rs, e, h⟩
  unfold gOr at e
  cases q : g1 ys st with
  | some p =>
    rw [q] at e
    have e : p = (v, st') := Option.some.inj e
    subst e
    exact h1 pins s σ H xs us Q I r ⟨ρ, st, ys, v, st', S, rs, q, h⟩
  | none =>
    rw [q] at e
    exact h2 pins s σ H xs us Q I r ⟨ρ, st, ys, v, st', S, rs, e, h⟩
theorem CR_imp {r : List V → Hp → VK → Prop} (h : CallR X f r) (i : ∀ ρ st H xs vs v st' (Q : VK), Sim X.K cl ρ st H → RelPs X.K ρ H xs vs → g xs st = some (v, st') → (Res.ok v st').post X.K cl ρ H (Val X.K Q) NoE → r vs H Q) : CallR X f (rG X.K cl g) :=
  fun pins s σ H xs us Q I r ⟨ρ, st, ys, v, st', S, rs, e, q⟩ => h pins s σ H xs us Q I r (i ρ st H ys xs v st' Q S rs e q)
def mB (g : PF) (ga : MEs) : ME := fun σ st => (ga σ st).bind fun xs st1 => match g xs st1 with
  | some (v, st2) => .ok v st2
  | none => .stuck
variable {x : Str} {p pos : Pos} {e : Expr} {es : List Expr} {ga : MEs} {id T : String}
theorem mB_go {σ : L2.St} {H : Hp} {Q : VK} (h : tM X.K cl W (mB g ga) σ H Q) : tCB (rG X.K cl g) (tMA X.K cl W ga) σ H Q := by
  obtain ⟨ρ, st, σp, S, rs, h⟩ := h
  refine ⟨ρ, st, σp, S, rs, Res.post.imp (Res.post.bind h) (fun xs st1 ρ1 H1 l1 e1 S1 h1 vs rv => ?_) fun _ _ _ z => z⟩
  split at h1
  · next v st2 eq => exact ⟨ρ1, st1, xs, v, st2, S1, rv, eq, h1⟩
  · exact h1.elim
theorem me_callB (hc : CallR X (.builtin id) (rG X.K cl g)) (hg : Gl X x) (hm : X.mg x = none) (hv : bootBuiltins x = some (.builtin id)) (ha : PA X (e :: es) (tMA X.K cl W ga)) (hn : x ≠ "__name__" := by decide) (hdb : (x == ("__debug__" : Str)) = false := by decide)
    (he : starEach (e :: es) X.env = (false, eval e X.env) :: starEach es X.env := by rfl) (hpl : (backTo pos (starEach es X.env)).any (·.1) = false := by rfl) : PE X (.Call (.Name x p) (e :: es) [] pos) (tM X.K cl W (mB g ga)) :=
  (pe_callB hc hg hm hv ha hn hdb he hpl).imp fun σ H Q h => mB_go h
theorem me_callTy (hc : CallR X (.type T) (rG X.K cl g)) (hg : Gl X x) (hm : X.mg x = none) (hv : bootBuiltins x = some (.type T)) (ha : PA X (e :: es) (tMA X.K cl W ga)) (hn : x ≠ "__name__" := by decide) (hdb : (x == ("__debug__" : Str)) = false := by decide)
    (he : starEach (e :: es) X.env = (false, eval e X.env) :: starEach es X.env := by rfl) (hpl : (backTo pos (starEach es X.env)).any (·.1) = false := by rfl) : PE X (.Call (.Name x p) (e :: es) [] pos) (tM X.K cl W (mB g ga)) :=
  (pe_callTy hc hg hm hv ha hn hdb he hpl).imp fun σ H Q h => mB_go h

def lenP (x : PV) (st : Sto) : Option Nat := match x with
  | .str z => if sz z.length then some z.length else none
  | .tup xs => some xs.length
  | .ktp xs => some xs.length
  | .rls xs => some xs.length
  | .ref n => match st.get n with
    | some (.lst xs) => some xs.length
    | some (.dct kvs _) => if kvs.all (fun p => (keyK p.1).isSome) = true then some kvs.length else none
    | _ => none
  | _ => none
def gLen : PF := fun xs st => match xs with
  | [x] => match lenP x st with
    | some n => some (.int n, st)
    | none => none
  | _ => none
/-- a dict of the store, read, its keys ints or texts -/
theorem rd_dk {K : PySem.W.Frag} {ρ : Rho} {st : Sto} {H : Hp} {n : Nat} {a : Addr} {kvs : List (PV × PV)} {lk : Bool} (S : Sim K cl ρ st H) (hr : ρ n = some a) (e : st.get n = some (.dct kvs lk)) (hk : kvs.all (fun p => (keyK p.1).isSome) = true) : ∃ ws, Rd H a (.dK ws) ∧ RelDk K ρ H kvs ws := by
  obtain ⟨u, r, q⟩ := S.at_ hr e
  rcases r with ⟨ws, rfl, r⟩ | ⟨ne, ws, rfl, r⟩
  · refine ⟨ws, ?_, r⟩
    split at q
    · obtain ⟨z, q⟩ := q; exact .inr ⟨z, q⟩
    · exact .inl q
  · cases r with
    | nil => exact absurd rfl ne
    | @cons k _ _ _ _ _ hk2 _ _ => cases k <;> first | cases hk2 | simp [keyK] at hk
theorem cr_len : CallR X (.builtin "len") (rG X.K cl gLen) := by
  intro pins s σ H vs us Q I r ⟨ρ, st, xs, v, st', S, rs, e, h⟩
  unfold gLen at e
  split at e
  · next x =>
    split at e
    · next n en =>
      cases e
      cases rs with
      | @cons _ v0 _ _ rx rr =>
        cases rr
        have q : ∀ {m : Nat}, n = m → Q (.int (m : Int)) H := fun {m} z => by subst z; exact Res.post.now S h _ (.int _)
        unfold lenP at en
        split at en
        · split at en
          · next hz =>
            cases en; cases rx
            exact call_len_str pins s σ H _ us Q I r ⟨_, rfl, sz_ok hz, q rfl⟩
          · cases en
        · cases en
          cases rx with
          | tup hq rr => exact call_len_seq pins s σ H _ us Q I r ⟨_, _, rfl, .inr (SqT.of hq), q rr.length⟩
        · cases en
          cases rx with
          | ktp hq rr => exact call_len_seq pins s σ H _ us Q I r ⟨_, _, rfl, .inr hq.sq, q rr.length⟩
        · cases en
          cases rx with
          | rls hq rr => exact call_len_seq pins s σ H _ us Q I r ⟨_, _, rfl, .inl hq.sql, q rr.length⟩
        · split at en
          · next eq =>
            cases en
            cases rx with
            | ref hr =>
              obtain ⟨ws, hq, rr⟩ := S.at_ hr eq
              exact call_len_seq pins s σ H _ us Q I r ⟨_, _, rfl, .inl (SqL.of hq), q rr.length⟩
          · next eq =>
            split at en
            · next hk =>
              cases en
              cases rx with
              | ref hr =>
                obtain ⟨ws, hq, rr⟩ := rd_dk S hr eq hk
                obtain ⟨u, rfl, ru⟩ := vals1 r
                cases ru
                exact d_len I hq fun t s' I' => ⟨.int ws.length, H, I', ⟨t, rfl⟩, q rr.length⟩
            · cases en
          · cases en
        · cases en
    · cases e
  · cases e

def gInt : PF := fun xs st => match xs with
  | [.int i] => some (.int i, st)
  | [.bl b] => some (.int (if b then 1 else 0), st)
  | _ => none
theorem cr_int : CallR X (.type "int") (rG X.K cl gInt) := CR_imp call_int1 fun ρ st H xs vs v st' Q S rs e h => by
  unfold gInt at e
  split at e
  · cases e
    cases rs with
    | cons rx rr => cases rr; cases rx; exact .inl ⟨_, rfl, Res.post.now S h _ (.int _)⟩
  · cases e
    cases rs with
    | cons rx rr => cases rr; cases rx; exact .inr ⟨_, rfl, Res.post.now S h _ (.int _)⟩
  · cases e
def gAbs : PF := fun xs st => match xs with
  | [.int i] => some (.int (if i < 0 then -i else i), st)
  | _ => none
theorem cr_abs : CallR X (.builtin "abs") (rG X.K cl gAbs) := CR_imp call_abs fun ρ st H xs vs v st' Q S rs e h => by
  unfold gAbs at e
  split at e
  · cases e
    cases rs with
    | cons rx rr => cases rr; cases rx; exact ⟨_, rfl, Res.post.now S h _ (.int _)⟩
  · cases e
def gStrS : PF := fun xs st => match xs with
  | [.str z] => some (.str z, st)
  | _ => none
def gMax2 : PF := fun xs st => match xs with
  | [.int i, .int j] => some (.int (if j > i then j else i), st)
  | _ => none
def gMin2 : PF := fun xs st => match xs with
  | [.int i, .int j] => some (.int (if j < i then j else i), st)
  | _ => none
theorem cr_max2 (hc : X.calm = true) : CallR X (.builtin "max") (rG X.K cl gMax2) := CR_imp (call_max2 hc) fun ρ st H xs vs v st' Q S rs e h => by
  unfold gMax2 at e
  split at e
  · cases e
    cases rs with
    | cons rx rr => cases rr with
      | cons ry rr => cases rr; cases rx; cases ry; exact ⟨_, _, rfl, Res.post.now S h _ (.int _)⟩
  · cases e
theorem cr_min2 (hc : X.calm = true) : CallR X (.builtin "min") (rG X.K cl gMin2) := CR_imp (call_min2 hc) fun ρ st H xs vs v st' Q S rs e h => by
  unfold gMin2 at e
  split at e
  · cases e
    cases rs with
    | cons rx rr => cases rr with
      | cons ry rr => cases rr; cases rx; cases ry; exact ⟨_, _, rfl, Res.post.now S h _ (.int _)⟩
  · cases e
/-- the ints of a list of values -/
def intsOf : List PV → Option (List Int)
  | [] => some []
  | .int i :: r => (intsOf r).map (i :: ·)
  | _ => none
theorem intsOf_rel {K : PySem.W.Frag} {ρ : Rho} {H : Hp} : ∀ {xs : List PV} {vs : List V} {ns : List Int}, RelPs K ρ H xs vs → intsOf xs = some ns → vs = ns.map V.int
  | [], vs, ns, r, h => by cases r; cases h; rfl
  | x :: xs, vs, ns, r, h => by
    cases r with
    | cons rx rr =>
      cases x with
      | int i =>
        unfold intsOf at h
        obtain ⟨ms, h1, rfl⟩ := Option.map_eq_some_iff.mp h
        cases rx
        rw [intsOf_rel rr h1]
        rfl
      | _ => cases h
theorem rel_ints {K : PySem.W.Frag} {ρ : Rho} {H : Hp} : ∀ (ns : List Int), RelPs K ρ H (ns.map PV.int) (ns.map V.int)
  | [] => .nil
  | n :: ns => .cons (.int n) (rel_ints ns)
def blsOf : List PV → Option (List Bool)
  | [] => some []
  | .bl i :: r => (blsOf r).map (i :: ·)
  | _ => none
theorem blsOf_rel {K : PySem.W.Frag} {ρ : Rho} {H : Hp} : ∀ {xs : List PV} {vs : List V} {ns : List Bool}, RelPs K ρ H xs vs → blsOf xs = some ns → vs = ns.map V.bl
  | [], vs, ns, r, h => by cases r; cases h; rfl
  | x :: xs, vs, ns, r, h => by
    cases r with
    | cons rx rr =>
      cases x with
      | bl i =>
        unfold blsOf at h
        obtain ⟨ms, h1, rfl⟩ := Option.map_eq_some_iff.mp h
        cases rx
        rw [blsOf_rel rr h1]
        rfl
      | _ => cases h
/-- a built-in over one list -/
def gL1 (f : List PV → Option PV) : PF := fun xs st => match xs with
  | [x] => match lstOf x st with
    | some ys => match f ys with
      | some v => some (v, st)
      | none => none
    | none => none
  | _ => none
theorem gL1_at {K : PySem.W.Frag} {ρ : Rho} {st : Sto} {H : Hp} {f : List PV → Option PV} {xs : List PV} {vs : List V} {v : PV} {st' : Sto} (S : Sim K cl ρ st H) (rs : RelPs K ρ H xs vs) (e : gL1 f xs st = some (v, st')) :
    st' = st ∧ ∃ a ws ys, vs = [.ref a] ∧ SqL K H a ws ∧ RelPs K ρ H ys ws ∧ f ys = some v := by
  unfold gL1 at e
  split at e
  · split at e
    · next ys ey =>
      split at e
      · next ef =>
        cases e
        cases rs with
        | cons rx rr =>
          cases rr
          obtain ⟨a, ws, rfl, h1, h2⟩ := lstOf_sql S rx ey
          exact ⟨rfl, a, ws, ys, rfl, h1, h2, ef⟩
      · cases e
    · cases e
  · cases e
def sumL (ys : List PV) : Option PV := (intsOf ys).map fun ns => .int ns.sum
def anyL (ys : List PV) : Option PV := (blsOf ys).map fun ns => .bl (ns.any _root_.id)
def allL (ys : List PV) : Option PV := (blsOf ys).map fun ns => .bl (ns.all _root_.id)
def maxI : List Int → Option Int
  | [] => none
  | i :: r => some (r.foldl max i)
def minI : List Int → Option Int
  | [] => none
  | i :: r => some (r.foldl min i)
def maxL (ys : List PV) : Option PV := ((intsOf ys).bind maxI).map .int
def minL (ys : List PV) : Option PV := ((intsOf ys).bind minI).map .int
theorem cr_sum' (hc : X.calm = true) : CallR X (.builtin "sum") (rG X.K cl (gL1 sumL)) := CR_imp (cr_sum hc) fun ρ st H xs vs v st' Q S rs e h => by
  obtain ⟨rfl, a, ws, ys, rfl, h1, h2, h3⟩ := gL1_at S rs e
  obtain ⟨ns, h4, rfl⟩ := Option.map_eq_some_iff.mp h3
  rw [intsOf_rel h2 h4] at h1
  exact ⟨a, ns, rfl, h1, Res.post.now S h _ (.int _)⟩
theorem cr_any' (hc : X.calm = true) : CallR X (.builtin "any") (rG X.K cl (gL1 anyL)) := CR_imp (cr_any hc) fun ρ st H xs vs v st' Q S rs e h => by
  obtain ⟨rfl, a, ws, ys, rfl, h1, h2, h3⟩ := gL1_at S rs e
  obtain ⟨ns, h4, rfl⟩ := Option.map_eq_some_iff.mp h3
  rw [blsOf_rel h2 h4] at h1
  exact ⟨a, ns, rfl, h1, Res.post.now S h _ (.bl _)⟩
theorem cr_all' (hc : X.calm = true) : CallR X (.builtin "all") (rG X.K cl (gL1 allL)) := CR_imp (cr_all hc) fun ρ st H xs vs v st' Q S rs e h => by
  obtain ⟨rfl, a, ws, ys, rfl, h1, h2, h3⟩ := gL1_at S rs e
  obtain ⟨ns, h4, rfl⟩ := Option.map_eq_some_iff.mp h3
  rw [blsOf_rel h2 h4] at h1
  exact ⟨a, ns, rfl, h1, Res.post.now S h _ (.bl _)⟩
theorem foldl_max : ∀ (r : List Int) (i : Int), r.foldl max i ∈ i :: r ∧ ∀ y ∈ i :: r, y ≤ r.foldl max i
  | [], i => ⟨List.mem_cons_self, fun y hy => by rw [List.mem_singleton] at hy; subst hy; exact Int.le_refl _⟩
  | j :: r, i => by
    obtain ⟨h1, h2⟩ := foldl_max r (max i j)
    refine ⟨?_, fun y hy => ?_⟩
    · rw [List.foldl_cons]
      rcases List.mem_cons.mp h1 with h | h
      · rw [h]
        rcases Int.le_total i j with hh | hh
        · rw [Int.max_eq_right hh]; exact List.mem_cons_of_mem _ List.mem_cons_self
        · rw [Int.max_eq_left hh]; exact List.mem_cons_self
      · exact List.mem_cons_of_mem _ (List.mem_cons_of_mem _ h)
    · rw [List.foldl_cons]
      have hm := h2 (max i j) List.mem_cons_self
      rcases List.mem_cons.mp hy with rfl | hy
      · omega
      · rcases List.mem_cons.mp hy with rfl | hy
        · omega
        · exact h2 y (List.mem_cons_of_mem _ hy)
theorem foldl_min : ∀ (r : List Int) (i : Int), r.foldl min i ∈ i :: r ∧ ∀ y ∈ i :: r, r.foldl min i ≤ y
  | [], i => ⟨List.mem_cons_self, fun y hy => by rw [List.mem_singleton] at hy; subst hy; exact Int.le_refl _⟩
  | j :: r, i => by
    obtain ⟨h1, h2⟩ := foldl_min r (min i j)
    refine ⟨?_, fun y hy => ?_⟩
    · rw [List.foldl_cons]
      rcases List.mem_cons.mp h1 with h | h
      · rw [h]
        rcases Int.le_total i j with hh | hh
        · rw [Int.min_eq_left hh]; exact List.mem_cons_self
        · rw [Int.min_eq_right hh]; exact List.mem_cons_of_mem _ List.mem_cons_self
      · exact List.mem_cons_of_mem _ (List.mem_cons_of_mem _ h)
    · rw [List.foldl_cons]
      have hm := h2 (min i j) List.mem_cons_self
      rcases List.mem_cons.mp hy with rfl | hy
      · omega
      · rcases List.mem_cons.mp hy with rfl | hy
        · omega
        · exact h2 y (List.mem_cons_of_mem _ hy)
theorem cr_maxL (hc : X.calm = true) : CallR X (.builtin "max") (rG X.K cl (gL1 maxL)) := CR_imp (cr_max hc) fun ρ st H xs vs v st' Q S rs e h => by
  obtain ⟨rfl, a, ws, ys, rfl, h1, h2, h3⟩ := gL1_at S rs e
  obtain ⟨m, h4, rfl⟩ := Option.map_eq_some_iff.mp h3
  obtain ⟨ns, h5, h6⟩ := Option.bind_eq_some_iff.mp h4
  rw [intsOf_rel h2 h5] at h1
  cases ns with
  | nil => cases h6
  | cons i r =>
    have h6 : r.foldl max i = m := Option.some.inj h6
    obtain ⟨k1, k2⟩ := foldl_max r i
    rw [h6] at k1 k2
    refine ⟨a, i :: r, rfl, h1, Nat.succ_pos _, fun m' hm hy => ?_⟩
    have e1 : m' = m := Int.le_antisymm (k2 m' hm) (hy m k1)
    rw [e1]
    exact Res.post.now S h _ (.int _)
theorem cr_minL (hc : X.calm = true) : CallR X (.builtin "min") (rG X.K cl (gL1 minL)) := CR_imp (cr_min hc) fun ρ st H xs vs v st' Q S rs e h => by
  obtain ⟨rfl, a, ws, ys, rfl, h1, h2, h3⟩ := gL1_at S rs e
  obtain ⟨m, h4, rfl⟩ := Option.map_eq_some_iff.mp h3
  obtain ⟨ns, h5, h6⟩ := Option.bind_eq_some_iff.mp h4
  rw [intsOf_rel h2 h5] at h1
  cases ns with
  | nil => cases h6
  | cons i r =>
    have h6 : r.foldl min i = m := Option.some.inj h6
    obtain ⟨k1, k2⟩ := foldl_min r i
    rw [h6] at k1 k2
    refine ⟨a, i :: r, rfl, h1, Nat.succ_pos _, fun m' hm hy => ?_⟩
    have e1 : m' = m := Int.le_antisymm (hy m k1) (k2 m' hm)
    rw [e1]
    exact Res.post.now S h _ (.int _)

/-- a new list out of what there is -/
def gNewL (f : List PV → Sto → Option (List PV)) : PF := fun xs st => match f xs st with
  | some ys => some (.ref st.nx, st.add (.lst ys))
  | none => none
def sortI (ns : List Int) : List Int := ns.mergeSort (fun a b => decide (a ≤ b))
theorem sortI_uniq {ns ms : List Int} (h1 : ms.Perm ns) (h2 : ms.Pairwise (· ≤ ·)) : ms = sortI ns := by
  have h3 : (sortI ns).Perm ns := List.mergeSort_perm ns _
  have h4 : (sortI ns).Pairwise (· ≤ ·) := by
    have := List.pairwise_mergeSort (le := fun a b : Int => decide (a ≤ b)) (fun a b c h1 h2 => by simp at h1 h2 ⊢; omega) (fun a b => by simp; omega) ns
    exact this.imp fun h => by simpa using h
  exact (h1.trans h3.symm).eq_of_pairwise (fun a b _ _ h1 h2 => Int.le_antisymm h1 h2) h2 h4
def srtL (xs : List PV) (st : Sto) : Option (List PV) := match xs with
  | [x] => ((lstOf x st).bind intsOf).map fun ns => (sortI ns).map .int
  | _ => none
def keysD (x : PV) (st : Sto) : Option (List (PV × PV)) := match x with
  | .ref n => match st.get n with
    | some (.dct kvs _) => if kvs.all (fun p => (keyK p.1).isSome) = true then some kvs else none
    | _ => none
  | _ => none
def srtD (xs : List PV) (st : Sto) : Option (List PV) := match xs with
  | [x] => ((keysD x st).bind fun kvs => if kvs.length < 64 then intsOf (kvs.map (·.1)) else none).map fun ns => (sortI ns).map .int
  | _ => none
theorem keysD_at {K : PySem.W.Frag} {ρ : Rho} {st : Sto} {H : Hp} {x : PV} {v : V} {kvs : List (PV × PV)} (S : Sim K cl ρ st H) (r : RelP K ρ H x v) (h : keysD x st = some kvs) : ∃ a ws, v = .ref a ∧ Rd H a (.dK ws) ∧ RelDk K ρ H kvs ws := by
  unfold keysD at h
  split at h
  · split at h
    · next eq =>
      split at h
      · next hk =>
        cases h
        cases r with
        | ref hr =>
          obtain ⟨ws, q, rr⟩ := rd_dk S hr eq hk
          exact ⟨_, ws, rfl, q, rr⟩
      · cases h
    · cases h
  · cases h
theorem gNewL_post {K : PySem.W.Frag} {ρ : Rho} {st st' : Sto} {H : Hp} {f : List PV → Sto → Option (List PV)} {xs ys : List PV} {vs : List V} {v : PV} {Q : VK} {p : Addr} (S : Sim K cl ρ st H) (e : gNewL f xs st = some (v, st')) (ef : f xs st = some ys) (h : (Res.ok v st').post K cl ρ H (Val K Q) NoE) (hp : H p = none) (r : RelPs K ρ H ys vs) :
    Q (.ref p) (upd H p (.lst vs)) := by
  unfold gNewL at e
  rw [ef] at e
  cases e
  exact new_lst S hp r h
theorem gNewL_some {f : List PV → Sto → Option (List PV)} {xs : List PV} {st st' : Sto} {v : PV} (e : gNewL f xs st = some (v, st')) : ∃ ys, f xs st = some ys := by
  unfold gNewL at e
  split at e
  · next ys h => exact ⟨ys, h⟩
  · cases e
theorem cr_srtL : CallR X (.builtin "sorted") (rG X.K cl (gNewL srtL)) := CR_imp cr_sortedI fun ρ st H xs vs v st' Q S rs e h => by
  obtain ⟨ys, ef⟩ := gNewL_some e
  have ef2 := ef
  unfold srtL at ef2
  split at ef2
  · obtain ⟨ns, h1, rfl⟩ := Option.map_eq_some_iff.mp ef2
    obtain ⟨zs, h2, h3⟩ := Option.bind_eq_some_iff.mp h1
    cases rs with
    | cons rx rr =>
      cases rr
      obtain ⟨a, ws, rfl, h4, h5⟩ := lstOf_sql S rx h2
      rw [intsOf_rel h5 h3] at h4
      refine ⟨a, ns, rfl, h4, fun ns' p hp hs hn => ?_⟩
      rw [sortI_uniq hp hs]
      exact gNewL_post S e ef h hn (rel_ints _)
  · cases ef2
theorem relDk_ints {K : PySem.W.Frag} {ρ : Rho} {H : Hp} {kvs : List (PV × PV)} {ws : List (Key × V)} (r : RelDk K ρ H kvs ws) : ∀ {ns : List Int}, intsOf (kvs.map (·.1)) = some ns → ws.map (·.1) = ns.map Sum.inl := by
  induction r with
  | nil => intro ns h; cases h; rfl
  | @cons x y k v xs vs hk h t ih =>
    intro ns e
    cases x with
    | int i =>
      have e : (intsOf (xs.map (·.1))).map (i :: ·) = some ns := e
      obtain ⟨ms, h1, rfl⟩ := Option.map_eq_some_iff.mp e
      cases hk
      rw [List.map_cons, ih h1]
      rfl
    | _ => cases e
theorem cr_srtD (hc : X.calm = true) : CallR X (.builtin "sorted") (rG X.K cl (gNewL srtD)) := CR_imp (call_sortedDI hc) fun ρ st H xs vs v st' Q S rs e h => by
  obtain ⟨ys, ef⟩ := gNewL_some e
  have ef2 := ef
  unfold srtD at ef2
  split at ef2
  · obtain ⟨ns, h1, rfl⟩ := Option.map_eq_some_iff.mp ef2
    obtain ⟨kvs, h2, h3⟩ := Option.bind_eq_some_iff.mp h1
    split at h3
    · next hl =>
      cases rs with
      | cons rx rr =>
        cases rr
        obtain ⟨a, ws, rfl, h4, h5⟩ := keysD_at S rx h2
        have hk := relDk_ints h5 h3
        refine ⟨a, ws, ns, rfl, h4, hk, ?_, fun ns' p hp hs hn => ?_⟩
        · have := congrArg List.length hk
          rw [List.length_map, List.length_map] at this
          rw [← this, ← h5.length]
          exact hl
        · rw [sortI_uniq hp hs]
          exact gNewL_post S e ef h hn (rel_ints _)
    · cases h3
  · cases ef2
/-- list(x): of a list, a tuple -/
def lisL (xs : List PV) (st : Sto) : Option (List PV) := match xs with
  | [.tup ys] => some ys
  | [.ktp ys] => some ys
  | [x] => lstOf x st
  | _ => none
theorem cr_lisL : CallR X (.type "list") (rG X.K cl (gNewL lisL)) := CR_imp call_list_of fun ρ st H xs vs v st' Q S rs e h => by
  obtain ⟨ys, ef⟩ := gNewL_some e
  have ef2 := ef
  unfold lisL at ef2
  split at ef2
  · cases ef2
    cases rs with
    | cons rx rr =>
      cases rr
      cases rx with
      | tup hq r => exact ⟨_, _, rfl, .inr (SqT.of hq), fun p hp => gNewL_post S e ef h hp r⟩
  · cases ef2
    cases rs with
    | cons rx rr =>
      cases rr
      cases rx with
      | ktp hq r => exact ⟨_, _, rfl, .inr hq.sq, fun p hp => gNewL_post S e ef h hp r⟩
  · cases rs with
    | cons rx rr =>
      cases rr
      obtain ⟨a, ws, rfl, h4, h5⟩ := lstOf_sql S rx ef2
      exact ⟨_, _, rfl, .inl h4, fun p hp => gNewL_post S e ef h hp h5⟩
  · cases ef2
/-- list(d) -/
def lisD (xs : List PV) (st : Sto) : Option (List PV) := match xs with
  | [x] => (keysD x st).map fun kvs => kvs.map (·.1)
  | _ => none
theorem relDk_keys {K : PySem.W.Frag} {ρ : Rho} {H : Hp} {kvs : List (PV × PV)} {ws : List (Key × V)} (r : RelDk K ρ H kvs ws) : RelPs K ρ H (kvs.map (·.1)) (ws.map fun kv => kV kv.1) := by
  induction r with
  | nil => exact .nil
  | @cons x y k v xs vs hk h t ih =>
    refine .cons ?_ ih
    cases x <;> simp [keyK] at hk <;> subst hk
    · exact .int _
    · exact .str _
theorem cr_lisD (hc : X.calm = true) : CallR X (.type "list") (rG X.K cl (gNewL lisD)) := CR_imp (call_listD hc) fun ρ st H xs vs v st' Q S rs e h => by
  obtain ⟨ys, ef⟩ := gNewL_some e
  have ef2 := ef
  unfold lisD at ef2
  split at ef2
  · obtain ⟨kvs, h2, rfl⟩ := Option.map_eq_some_iff.mp ef2
    cases rs with
    | cons rx rr =>
      cases rr
      obtain ⟨a, ws, rfl, h4, h5⟩ := keysD_at S rx h2
      exact ⟨a, ws, rfl, h4, fun p hp => gNewL_post S e ef h hp (relDk_keys h5)⟩
  · cases ef2
/-- list(d), the keys tuples -/
def lisT (xs : List PV) (st : Sto) : Option (List PV) := match xs with
  | [.ref n] => match st.get n with
    | some (.dct ((.tup k, v) :: kvs) _) => some (((PV.tup k, v) :: kvs).map (·.1))
    | _ => none
  | _ => none
theorem relDt_keys {K : PySem.W.Frag} {ρ : Rho} {H : Hp} {kvs : List (PV × PV)} {ws : List (List Key × V)} (r : RelDt K ρ H kvs ws) : ∀ {bs : List Addr}, IsKeys H ws bs → RelPs K ρ H (kvs.map (·.1)) (bs.map V.ref) := by
  induction r with
  | nil => intro bs h; cases h; exact .nil
  | @cons x y k v xs vs hk h t ih =>
    intro bs q
    cases q with
    | cons q1 q2 =>
      refine .cons ?_ (ih q2)
      cases x with
      | tup zs => exact .tup q1 (keysK_rel hk)
      | _ => cases hk
theorem cr_lisT (hc : X.calm = true) : CallR X (.type "list") (rG X.K cl (gNewL lisT)) := CR_imp (call_list_dT hc) fun ρ st H xs vs v st' Q S rs e h => by
  obtain ⟨ys, ef⟩ := gNewL_some e
  have ef2 := ef
  unfold lisT at ef2
  split at ef2
  · split at ef2
    · next eq =>
      cases ef2
      cases rs with
      | cons rx rr =>
        cases rr
        cases rx with
        | ref hr =>
          obtain ⟨u, rd, q⟩ := S.at_ hr eq
          rcases rd with ⟨ws, rfl, rd⟩ | ⟨ne, ws, rfl, rd⟩
          · cases rd with
            | cons hk _ _ => cases hk
          · refine ⟨_, ws, rfl, ?_, fun p bs hp hb => gNewL_post S e ef h hp (relDt_keys rd hb)⟩
            split at q
            · obtain ⟨z, q⟩ := q; exact .inr ⟨z, q⟩
            · exact .inl q
    · cases ef2
  · cases ef2
end
end MP
set_option Elab.async false
set_option linter.all false
set_option maxRecDepth 100000
set_option maxHeartbeats 2000000
namespace MP
open PySem PySem.Spec L2
def dgetP (kvs : List (PV × PV)) (y : PV) : Option PV := (kvs.find? fun p => decide (p.1 = y)).map (·.2)
def dputP (kvs : List (PV × PV)) (y v : PV) : List (PV × PV) := if (kvs.any fun p => decide (p.1 = y)) = true then kvs.map (fun p => if p.1 = y then (p.1, v) else p) else kvs ++ [(y, v)]
def ddelP (kvs : List (PV × PV)) (y : PV) : List (PV × PV) := kvs.filter fun p => decide (p.1 ≠ y)
/-- false: an int or a text; true: a tuple of such -/
def kindK (y : PV) : Option Bool := match y with
  | .int _ => some false
  | .str _ => some false
  | .tup zs => if (keysK zs).isSome = true then some true else none
  | _ => none
/-- the key's kind goes with the dict's -/
def kfit (kvs : List (PV × PV)) (lk : Bool) (y : PV) : Bool := match kindK y with
  | none => false
  | some b => match kvs with
    | [] => !b || !lk
    | (k, _) :: _ => decide (kindK k = some b)
theorem keyK_inj {x y : PV} {k : Key} (h : keyK x = some k) (h' : keyK y = some k) : x = y := by
  cases x <;> simp [keyK] at h <;> cases y <;> simp [keyK] at h' <;> subst h <;> simp at h' <;> simp [h']
theorem keysK_inj : ∀ {xs ys : List PV} {k : List Key}, keysK xs = some k → keysK ys = some k → xs = ys
  | [], ys, k, h, h' => by
    rw [keysK] at h
    cases h
    cases ys with
    | nil => rfl
    | cons y ys =>
      rw [keysK] at h'
      split at h' <;> cases h'
  | x :: xs, ys, k, h, h' => by
    rw [keysK] at h
    split at h
    · next a b e1 e2 =>
      cases h
      cases ys with
      | nil => rw [keysK] at h'; cases h'
      | cons y ys =>
        rw [keysK] at h'
        split at h'
        · next c d e3 e4 =>
          cases h'
          rw [keyK_inj e1 e3, keysK_inj e2 e4]
        · cases h'
    · cases h
theorem keyT_inj {x y : PV} {k : List Key} (h : keyT x = some k) (h' : keyT y = some k) : x = y := by
  cases x <;> simp only [keyT] at h <;> try (cases h)
  cases y <;> simp only [keyT] at h' <;> try (cases h')
  rw [keysK_inj h h']
def OR (K : PySem.W.Frag) (ρ : Rho) (H : Hp) : Option PV → Option V → Prop
  | none, none => True
  | some x, some v => RelP K ρ H x v
  | _, _ => False

section
variable {K : PySem.W.Frag} {ρ : Rho} {H : Hp} {kvs : List (PV × PV)} {ws : List (Key × V)} {y : PV} {k : Key}
theorem relDk_val (r : RelDk K ρ H kvs ws) (hk : keyK y = some k) : OR K ρ H (dgetP kvs y) (valV ws k) := by
  induction r with
  | nil => exact True.intro
  | @cons x z k' v xs vs hk' h t ih =>
    by_cases e : k' = k
    · subst e
      have e2 : x = y := keyK_inj hk' hk
      have e3 : dgetP ((x, z) :: xs) y = some z := by simp [dgetP, e2]
      rw [e3, valV_pos (show ((k', v) : Key × V).1 = k' from rfl)]
      exact h
    · have e2 : ¬ x = y := fun q => e (by rw [q, hk] at hk'; exact (Option.some.inj hk').symm)
      have e3 : dgetP ((x, z) :: xs) y = dgetP xs y := by simp [dgetP, e2]
      rw [e3, valV_neg (show ¬ ((k', v) : Key × V).1 = k from e)]
      exact ih
theorem relDk_any (r : RelDk K ρ H kvs ws) (hk : keyK y = some k) : (kvs.any fun p => decide (p.1 = y)) = ws.any fun p => decide (p.1 = k) := by
  induction r with
  | nil => rfl
  | @cons x z k' v xs vs hk' h t ih =>
    rw [List.any_cons, List.any_cons, ih]
    congr 1
    by_cases e : k' = k
    · subst e
      have e2 : x = y := keyK_inj hk' hk
      simp [e2]
    · have e2 : ¬ x = y := fun q => e (by rw [q, hk] at hk'; exact (Option.some.inj hk').symm)
      simp [e, e2]
theorem relDk_map {w : PV} {u : V} (r : RelDk K ρ H kvs ws) (hk : keyK y = some k) (rw' : RelP K ρ H w u) : RelDk K ρ H (kvs.map fun p => if p.1 = y then (p.1, w) else p) (ws.map fun p => if p.1 = k then (p.1, u) else p) := by
  induction r with
  | nil => exact .nil
  | @cons x z k' v xs vs hk' h t ih =>
    rw [List.map_cons, List.map_cons]
    by_cases e : k' = k
    · subst e
      have e2 : x = y := keyK_inj hk' hk
      rw [if_pos e2, if_pos (show ((k', v) : Key × V).1 = k' from rfl)]
      exact .cons hk' rw' ih
    · have e2 : ¬ x = y := fun q => e (by rw [q, hk] at hk'; exact (Option.some.inj hk').symm)
      rw [if_neg e2, if_neg (show ¬ ((k', v) : Key × V).1 = k from e)]
      exact .cons hk' h ih
theorem relDk_snoc {w : PV} {u : V} (r : RelDk K ρ H kvs ws) (hk : keyK y = some k) (rw' : RelP K ρ H w u) : RelDk K ρ H (kvs ++ [(y, w)]) (ws ++ [(k, u)]) := by
  induction r with
  | nil => exact .cons hk rw' .nil
  | cons hk' h _ ih => exact .cons hk' h ih
theorem relDk_put {w : PV} {u : V} (r : RelDk K ρ H kvs ws) (hk : keyK y = some k) (rw' : RelP K ρ H w u) : RelDk K ρ H (dputP kvs y w) (putK ws k u) := by
  unfold dputP putK
  rw [relDk_any r hk]
  split
  · exact relDk_map r hk rw'
  · exact relDk_snoc r hk rw'
theorem relDk_del (r : RelDk K ρ H kvs ws) (hk : keyK y = some k) : RelDk K ρ H (ddelP kvs y) (dropK ws k) := by
  induction r with
  | nil => exact .nil
  | @cons x z k' v xs vs hk' h t ih =>
    by_cases e : k' = k
    · subst e
      have e2 : x = y := keyK_inj hk' hk
      have z1 : ddelP ((x, z) :: xs) y = ddelP xs y := List.filter_cons_of_neg (by simp [e2])
      have z2 : dropK ((k', v) :: vs) k' = dropK vs k' := List.filter_cons_of_neg (by simp)
      rw [z1, z2]
      exact ih
    · have e2 : ¬ x = y := fun q => e (by rw [q, hk] at hk'; exact (Option.some.inj hk').symm)
      have z1 : ddelP ((x, z) :: xs) y = (x, z) :: ddelP xs y := List.filter_cons_of_pos (by simpa using e2)
      have z2 : dropK ((k', v) :: vs) k = (k', v) :: dropK vs k := List.filter_cons_of_pos (by simpa using e)
      rw [z1, z2]
      exact .cons hk' h ih
end

section
variable {K : PySem.W.Frag} {ρ : Rho} {H : Hp} {kvs : List (PV × PV)} {ws : List (List Key × V)} {y : PV} {k : List Key}
theorem relDt_val (r : RelDt K ρ H kvs ws) (hk : keyT y = some k) : OR K ρ H (dgetP kvs y) (valV ws k) := by
  induction r with
  | nil => exact True.intro
  | @cons x z k' v xs vs hk' h t ih =>
    by_cases e : k' = k
    · subst e
      have e2 : x = y := keyT_inj hk' hk
      have e3 : dgetP ((x, z) :: xs) y = some z := by simp [dgetP, e2]
      rw [e3, valV_pos (show ((k', v) : List Key × V).1 = k' from rfl)]
      exact h
    · have e2 : ¬ x = y := fun q => e (by rw [q, hk] at hk'; exact (Option.some.inj hk').symm)
      have e3 : dgetP ((x, z) :: xs) y = dgetP xs y := by simp [dgetP, e2]
      rw [e3, valV_neg (show ¬ ((k', v) : List Key × V).1 = k from e)]
      exact ih
theorem relDt_any (r : RelDt K ρ H kvs ws) (hk : keyT y = some k) : (kvs.any fun p => decide (p.1 = y)) = ws.any fun p => decide (p.1 = k) := by
  induction r with
  | nil => rfl
  | @cons x z k' v xs vs hk' h t ih =>
    rw [List.any_cons, List.any_cons, ih]
    congr 1
    by_cases e : k' = k
    · subst e
      have e2 : x = y := keyT_inj hk' hk
      simp [e2]
    · have e2 : ¬ x = y := fun q => e (by rw [q, hk] at hk'; exact (Option.some.inj hk').symm)
      simp [e, e2]
theorem relDt_map {w : PV} {u : V} (r : RelDt K ρ H kvs ws) (hk : keyT y = some k) (rw' : RelP K ρ H w u) : RelDt K ρ H (kvs.map fun p => if p.1 = y then (p.1, w) else p) (ws.map fun p => if p.1 = k then (p.1, u) else p) := by
  induction r with
  | nil => exact .nil
  | @cons x z k' v xs vs hk' h t ih =>
    rw [List.map_cons, List.map_cons]
    by_cases e : k' = k
    · subst e
      have e2 : x = y := keyT_inj hk' hk
      rw [if_pos e2, if_pos (show ((k', v) : List Key × V).1 = k' from rfl)]
      exact .cons hk' rw' ih
    · have e2 : ¬ x = y := fun q => e (by rw [q, hk] at hk'; exact (Option.some.inj hk').symm)
      rw [if_neg e2, if_neg (show ¬ ((k', v) : List Key × V).1 = k from e)]
      exact .cons hk' h ih
theorem relDt_snoc {w : PV} {u : V} (r : RelDt K ρ H kvs ws) (hk : keyT y = some k) (rw' : RelP K ρ H w u) : RelDt K ρ H (kvs ++ [(y, w)]) (ws ++ [(k, u)]) := by
  induction r with
  | nil => exact .cons hk rw' .nil
  | cons hk' h _ ih => exact .cons hk' h ih
theorem relDt_put {w : PV} {u : V} (r : RelDt K ρ H kvs ws) (hk : keyT y = some k) (rw' : RelP K ρ H w u) : RelDt K ρ H (dputP kvs y w) (putK ws k u) := by
  unfold dputP putK
  rw [relDt_any r hk]
  split
  · exact relDt_map r hk rw'
  · exact relDt_snoc r hk rw'
theorem relDt_del (r : RelDt K ρ H kvs ws) (hk : keyT y = some k) : RelDt K ρ H (ddelP kvs y) (dropK ws k) := by
  induction r with
  | nil => exact .nil
  | @cons x z k' v xs vs hk' h t ih =>
    by_cases e : k' = k
    · subst e
      have e2 : x = y := keyT_inj hk' hk
      have z1 : ddelP ((x, z) :: xs) y = ddelP xs y := List.filter_cons_of_neg (by simp [e2])
      have z2 : dropK ((k', v) :: vs) k' = dropK vs k' := List.filter_cons_of_neg (by simp)
      rw [z1, z2]
      exact ih
    · have e2 : ¬ x = y := fun q => e (by rw [q, hk] at hk'; exact (Option.some.inj hk').symm)
      have z1 : ddelP ((x, z) :: xs) y = (x, z) :: ddelP xs y := List.filter_cons_of_pos (by simpa using e2)
      have z2 : dropK ((k', v) :: vs) k = (k', v) :: dropK vs k := List.filter_cons_of_pos (by simpa using e)
      rw [z1, z2]
      exact .cons hk' h ih
end

section
variable {X : Cx} {pins : List (Addr × Obj)} {σ : L2.St} {H : Hp} {s : Shared} {d : Addr}
/-- an empty dict may take keys of the other kind -/
theorem relabT (I : Inv X pins σ H s) (h : H d = some (.dK [])) : Inv X pins σ (upd H d (.dT [])) s := by
  obtain ⟨z, hd, vs, rel, o, es, ep, ho, hx, hdat, _, hp, _⟩ := I.hok d _ h
  cases rel
  have e0 : es.toList = [] := by
    generalize es.toList = l at hp
    cases hp
    rfl
  exact I.write (x := d) (e := d) (t' := s.toks) (h' := s.heap) (by rw [h]; trivial) (.inl rfl) (fun b v _ q => q) ⟨o, ho⟩ ⟨Nat.zero_le _, hd, [], .nil, o, es, ep, ho, hx, hdat, e0, List.nodup_nil⟩
theorem relabK (I : Inv X pins σ H s) (h : H d = some (.dT [])) : Inv X pins σ (upd H d (.dK [])) s := by
  obtain ⟨z, hd, xs, rel, o, es, ep, ho, hx, hdat, hes, _⟩ := I.hok d _ h
  cases rel
  have e0 : es.toList = [] := hes
  refine I.write (x := d) (e := d) (t' := s.toks) (h' := s.heap) (by rw [h]; trivial) (.inl rfl) (fun b v _ q => q) ⟨o, ho⟩ ⟨Nat.zero_le _, hd, [], .nil, o, es, ep, ho, hx, hdat, fun e he => ?_, by rw [e0]; exact .nil, List.nodup_nil⟩
  have he : e ∈ es.toList := by simpa using he
  rw [e0] at he
  cases he
theorem upd_back {o : HO} (h : H d = some o) (u : HO) : upd (upd H d u) d o = H := by
  funext b
  by_cases e : b = d
  · rw [e, upd_same, h]
  · rw [upd_ne e, upd_ne e]
end
/-- what a key is in the heap -/
theorem kindK_f {y : PV} (h : kindK y = some false) : ∃ k, keyK y = some k := by
  cases y with
  | tup zs =>
    have h : (if (keysK zs).isSome = true then some true else none) = some false := h
    by_cases c : (keysK zs).isSome = true
    · rw [if_pos c] at h; exact nomatch (Option.some.inj h)
    · rw [if_neg c] at h; exact nomatch h
  | int i => exact ⟨_, rfl⟩
  | str i => exact ⟨_, rfl⟩
  | _ => cases h
theorem kindK_t {y : PV} (h : kindK y = some true) : ∃ zs ks, y = .tup zs ∧ keysK zs = some ks := by
  cases y with
  | tup zs =>
    have h : (if (keysK zs).isSome = true then some true else none) = some true := h
    by_cases c : (keysK zs).isSome = true
    · obtain ⟨ks, e⟩ := Option.isSome_iff_exists.mp c
      exact ⟨zs, ks, rfl, e⟩
    · rw [if_neg c] at h; exact nomatch h
  | _ => cases h
theorem keyK_val {K : PySem.W.Frag} {ρ : Rho} {H : Hp} {y : PV} {v : V} {k : Key} (h : keyK y = some k) (r : RelP K ρ H y v) : v = kV k := by
  cases y <;> simp only [keyK] at h <;> cases h <;> cases r <;> rfl
theorem keysK_vals {K : PySem.W.Frag} {ρ : Rho} {H : Hp} : ∀ {zs : List PV} {vs : List V} {ks : List Key}, keysK zs = some ks → RelPs K ρ H zs vs → vs = ks.map kV
  | [], vs, ks, h, r => by rw [keysK] at h; cases h; cases r; rfl
  | x :: xs, vs, ks, h, r => by
    rw [keysK] at h
    split at h
    · next a b e1 e2 =>
      cases h
      cases r with
      | cons r1 r2 => rw [keyK_val e1 r1, keysK_vals e2 r2]; rfl
    · cases h
theorem kfit_k {kvs : List (PV × PV)} {lk : Bool} {y : PV} (h : kfit kvs lk y = true) : (kindK y = some false ∧ ∀ p r, kvs = p :: r → kindK p.1 = some false) ∨ (kindK y = some true ∧ (kvs = [] → lk = false) ∧ ∀ p r, kvs = p :: r → kindK p.1 = some true) := by
  unfold kfit at h
  split at h
  · cases h
  · next b e =>
    cases b with
    | false =>
      refine .inl ⟨e, fun p r ek => ?_⟩
      subst ek
      obtain ⟨a, c⟩ := p
      exact of_decide_eq_true h
    | true =>
      refine .inr ⟨e, fun ek => ?_, fun p r ek => ?_⟩
      · subst ek
        simpa using h
      · subst ek
        obtain ⟨a, c⟩ := p
        exact of_decide_eq_true h
section
variable {K : PySem.W.Frag} {cl : CT} {ρ : Rho} {st : Sto} {H : Hp} {n : Nat} {a : Addr} {kvs : List (PV × PV)} {lk : Bool} {y : PV}
/-- plain keys: the heap's dict -/
theorem fit_k {u : HO} (r : RelD K ρ H kvs u) (h : ∀ p r, kvs = p :: r → kindK p.1 = some false) : ∃ ws, u = .dK ws ∧ RelDk K ρ H kvs ws := by
  rcases r with r | ⟨ne, ws, rfl, r⟩
  · exact r
  · cases r with
    | nil => exact absurd rfl ne
    | @cons x y k v xs vs hk hh t =>
      obtain ⟨k2, q⟩ := kindK_f (h _ _ rfl)
      cases x <;> first | (simp [keyK] at q; done) | (simp [keyT] at hk; done)
theorem fit_t {u : HO} (r : RelD K ρ H kvs u) (ne : kvs ≠ []) (h : ∀ p r, kvs = p :: r → kindK p.1 = some true) : ∃ ws, u = .dT ws ∧ RelDt K ρ H kvs ws := by
  rcases r with ⟨ws, rfl, r⟩ | ⟨_, ws, rfl, r⟩
  · cases r with
    | nil => exact absurd rfl ne
    | @cons x y k v xs vs hk hh t =>
      obtain ⟨zs, ks, q, _⟩ := kindK_t (h _ _ rfl)
      have q : x = .tup zs := q
      subst q
      exact nomatch hk
  · exact ⟨ws, rfl, r⟩
theorem rd_lk {u : HO} (q : if lk = true then ∃ o, H a = some (.frz o u) else H a = some u) : Rd H a u := by
  split at q
  · obtain ⟨z, q⟩ := q; exact .inr ⟨z, q⟩
  · exact .inl q
end
section
variable {X : Cx} {cl : CT} {pins : List (Addr × Obj)} {σ : L2.St} {H : Hp} {s : Shared} {ρ : Rho} {st : Sto} {n : Nat} {a : Addr} {kvs : List (PV × PV)} {lk : Bool} {y : PV} {v : V}
/-- a dict read at a key -/
theorem dget_with (I : Inv X pins σ H s) (S : Sim X.K cl ρ st H) (hr : ρ n = some a) (e : st.get n = some (.dct kvs lk)) (ry : RelP X.K ρ H y v) (hk : kfit kvs lk y = true) {C : Prop}
    (k : ∀ H' o, Inv X pins σ H' s → DGet H' a v o → OR X.K ρ H (dgetP kvs y) o → (∀ s', Inv X pins σ H' s' → Inv X pins σ H s') → C) : C := by
  obtain ⟨u, rd, q⟩ := S.at_ hr e
  rcases kfit_k hk with ⟨ky, kk⟩ | ⟨ky, k0, kk⟩
  · obtain ⟨ws, rfl, r⟩ := fit_k rd kk
    obtain ⟨kx, ek⟩ := kindK_f ky
    exact k H _ I (.inl ⟨ws, kx, rd_lk q, keyK_val ek ry, rfl⟩) (relDk_val r ek) fun _ z => z
  · obtain ⟨zs, ks, rfl, ek⟩ := kindK_t ky
    cases ry with
    | @tup _ b vs hb rr =>
      have evs := keysK_vals ek rr
      subst evs
      by_cases ne : kvs = []
      · have el := k0 ne
        subst ne el
        rw [if_neg Bool.false_ne_true] at q
        rcases rd with ⟨ws, rfl, r⟩ | ⟨nn, _⟩
        · cases r
          have hab : b ≠ a := fun z => by rw [z, q] at hb; cases hb
          refine k (upd H a (.dT [])) none (relabT I q) (.inr ⟨[], ks, b, .inl upd_same, rfl, by rw [upd_ne hab]; exact hb, rfl⟩) True.intro fun s' I' => ?_
          have := relabK I' upd_same
          rw [upd_back q] at this
          exact this
        · exact absurd rfl nn
      · obtain ⟨ws, rfl, r⟩ := fit_t rd ne kk
        exact k H _ I (.inr ⟨ws, ks, b, rd_lk q, rfl, hb, rfl⟩) (relDt_val r (show keyT (.tup zs) = some ks from ek)) fun _ z => z
/-- a dict written at a key -/
theorem dput_with {x : PV} {w : V} (I : Inv X pins σ H s) (S : Sim X.K cl ρ st H) (hr : ρ n = some a) (e : st.get n = some (.dct kvs false)) (ry : RelP X.K ρ H y v) (rx : RelP X.K ρ H x w) (hk : kfit kvs false y = true) (hl : kvs.length < sizeLine) {C : Prop}
    (k : ∀ H1 H2, Inv X pins σ H1 s → DPut H1 a v w H2 → Ext X.K H H2 → Sim X.K cl ρ (st.set n (.dct (dputP kvs y x) false)) H2 → C) : C := by
  obtain ⟨u, rd, q⟩ := S.at_ hr e
  rw [if_neg Bool.false_ne_true] at q
  rcases kfit_k hk with ⟨ky, kk⟩ | ⟨ky, k0, kk⟩
  · obtain ⟨ws, rfl, r⟩ := fit_k rd kk
    obtain ⟨kx, ek⟩ := kindK_f ky
    have hv := keyK_val ek ry
    subst hv
    have ex : Ext X.K H (upd H a (.dK (putK ws kx w))) := Ext.write q trivial
    refine k H _ I (DPut.k q (by rw [← r.length]; exact hl)) ex (S.write hr q trivial ⟨_, .inl ⟨_, rfl, relDk_put (r.mono (Le.refl _) ex) ek (rx.mono (Le.refl _) ex)⟩, ?_⟩)
    rw [if_neg Bool.false_ne_true]; exact upd_same
  · obtain ⟨zs, ks, rfl, ek⟩ := kindK_t ky
    cases ry with
    | @tup _ b vs hb rr =>
      have evs := keysK_vals ek rr
      subst evs
      have hab : b ≠ a := fun z => by
        rw [z, q] at hb
        cases hb
        exact (soft_of rd : False)
      by_cases ne : kvs = []
      · subst ne
        rcases rd with ⟨ws, rfl, r⟩ | ⟨nn, _⟩
        · cases r
          have I1 := relabT I q
          have e1 : upd (upd H a (.dT [])) a (.dT [(ks, w)]) = upd H a (.dT [(ks, w)]) := by
            funext c
            by_cases z : c = a
            · rw [z, upd_same, upd_same]
            · rw [upd_ne z, upd_ne z, upd_ne z]
          have ex : Ext X.K H (upd H a (.dT [(ks, w)])) := Ext.write q trivial
          refine k _ (upd H a (.dT [(ks, w)])) I1 (.inr ⟨[], ks, b, upd_same, rfl, by rw [upd_ne hab]; exact hb, hl, e1.symm⟩) ex (S.write hr q trivial ⟨_, .inr ⟨(fun z => nomatch z), [(ks, w)], rfl, RelDt.cons (k := ks) ek (rx.mono (Le.refl _) ex) .nil⟩, ?_⟩)
          rw [if_neg Bool.false_ne_true]; exact upd_same
        · exact absurd rfl nn
      · obtain ⟨ws, rfl, r⟩ := fit_t rd ne kk
        have ex : Ext X.K H (upd H a (.dT (putK ws ks w))) := Ext.write q trivial
        refine k H _ I (DPut.t q hb (by rw [← r.length]; exact hl)) ex (S.write hr q trivial ⟨_, .inr ⟨fun z => ?_, _, rfl, relDt_put (r.mono (Le.refl _) ex) (show keyT (.tup zs) = some ks from ek) (rx.mono (Le.refl _) ex)⟩, ?_⟩)
        · unfold dputP at z
          split at z
          · exact ne (List.map_eq_nil_iff.mp z)
          · exact absurd z (by simp)
        · rw [if_neg Bool.false_ne_true]; exact upd_same
end
end MP
set_option Elab.async false
set_option linter.all false
set_option maxRecDepth 100000
set_option maxHeartbeats 2000000
namespace MP
open PySem PySem.Spec L2
def ixP (x y : PV) (st : Sto) : Option PV := match x with
  | .tup xs => match y with
    | .int i => atI xs i
    | _ => none
  | .ktp xs => match y with
    | .int i => atI xs i
    | _ => none
  | .rls xs => match y with
    | .int i => atI xs i
    | _ => none
  | .str z => match y with
    | .int i => if sz z.length = true then (atI z.cps.toList i).map fun c => .str ⟨#[c]⟩ else none
    | _ => none
  | .ref n => match st.get n with
    | some (.lst xs) => match y with
      | .int i => atI xs i
      | _ => none
    | some (.dct kvs lk) => if kfit kvs lk y = true then dgetP kvs y else none
    | _ => none
  | _ => none
def mIx (fa fb : ME) : ME := fun σ st => (fa σ st).bind fun x st1 => (fb σ st1).bind fun y st2 => match ixP x y st2 with
  | some v => .ok v st2
  | none => .stuck
theorem atI_rel {K : PySem.W.Frag} {ρ : Rho} {H : Hp} {xs : List PV} {vs : List V} {i : Int} {x : PV} (r : RelPs K ρ H xs vs) (h : atI xs i = some x) : ∃ v, atI vs i = some v ∧ RelP K ρ H x v := by
  unfold atI at h ⊢
  rw [← r.length]
  obtain ⟨j, h1, h2⟩ := Option.bind_eq_some_iff.mp h
  rw [h1]
  exact r.get h2
section
variable {X : Cx} {cl : CT} {W : WX} {a b c e : Expr} {fa fb fc fe : ME} {pos p2 : Pos}
def rX (K : PySem.W.Frag) (cl : CT) : R2 := fun x y H Q => ∃ ρ st p q v, Sim K cl ρ st H ∧ RelP K ρ H p x ∧ RelP K ρ H q y ∧ ixP p q st = some v ∧ ∀ w, RelP K ρ H v w → Q w H
theorem ix_mp (hu : X.A.units + 1 < cLine) : IxR X (rX X.K cl) := by
  intro value slice pins s σ H x y v u Q I rx ry ⟨ρ, st, p, q, z, S, rp, rq, e, k⟩ hs
  have seq : ∀ {a : Addr} {vs : List V} {xs : List PV} {i : Int}, x = .ref a → (SqL X.K H a vs ∨ SqT X.K H a vs) → RelPs X.K ρ H xs vs → y = .int i → atI xs i = some z → wpAny (model X.prog X.w) X.A (PyProof.Rows.subscriptTail value slice v u) (EP X pins σ Q) X.xe s := fun {a vs xs i} ex hq rr ey h => by
    obtain ⟨w, h1, h2⟩ := atI_rel rr h
    rcases hq with hq | hq
    · exact ix_seq value slice pins s σ H x y v u Q I rx ry (.inl ⟨a, vs, i, w, ex, ey, hq, h1, k w h2⟩) hs
    · exact ix_seq value slice pins s σ H x y v u Q I rx ry (.inr (.inl ⟨a, vs, i, w, ex, ey, hq, h1, k w h2⟩)) hs
  unfold ixP at e
  split at e
  · split at e
    · cases rq
      cases rp with
      | tup hq rr => exact seq rfl (.inr (SqT.of hq)) rr rfl e
    · cases e
  · split at e
    · cases rq
      cases rp with
      | ktp hq rr => exact seq rfl (.inr hq.sq) rr rfl e
    · cases e
  · split at e
    · cases rq
      cases rp with
      | rls hq rr => exact seq rfl (.inl hq.sql) rr rfl e
    · cases e
  · split at e
    · split at e
      · next hz =>
        obtain ⟨c, h1, rfl⟩ := Option.map_eq_some_iff.mp e
        cases rq
        cases rp
        exact ix_seq value slice pins s σ H _ _ v u Q I rx ry (.inr (.inr ⟨_, _, c, rfl, rfl, sz_ok hz, h1, k _ (.str _)⟩)) hs
      · cases e
    · cases e
  · split at e
    · next eq =>
      split at e
      · cases rq
        cases rp with
        | ref hr =>
          obtain ⟨vs, hq, rr⟩ := S.at_ hr eq
          exact seq rfl (.inl (SqL.of hq)) rr rfl e
      · cases e
    · next kvs lk eq =>
      split at e
      · next hk =>
        cases rp with
        | @ref _ a hr =>
          obtain rfl : v = Value.ref a := rx
          refine dget_with I S hr eq rq hk fun H' o I' g or bk => ?_
          rw [e] at or
          cases o with
          | none => exact or.elim
          | some w =>
            exact PyProof.Rows.tail_any (dict_typeIs I' g) PySem.F.slot_dict_getitem.lookup (d_getItem hu I' g ry fun w' s' I2 rw' => ⟨w, H, bk s' I2, rw', k w or⟩) hs
      · cases e
    · cases e
  · cases e
theorem me_ix (hu : X.A.units + 1 < cLine) (ha : PE X a (tM X.K cl W fa)) (hb : PE X b (tM X.K cl W fb)) (hs : PlainIx b := by exact fun _ _ => rfl) : PE X (.Subscript a b pos) (tM X.K cl W (mIx fa fb)) :=
  (pe_ix (ix_mp (cl := cl) hu) ha hb hs).imp fun σ H Q ⟨ρ, st, σp, S, rs, h⟩ => by
    refine ⟨ρ, st, σp, S, rs, Res.post.imp (Res.post.bind h) (fun x st1 ρ1 H1 l1 e1 S1 h1 v rv => ?_) fun _ _ _ z => z⟩
    refine ⟨ρ1, st1, σp, S1, rs.mono l1 e1, Res.post.imp (Res.post.bind h1) (fun y st2 ρ2 H2 l2 e2 S2 h2 w rw' => ?_) fun _ _ _ z => z⟩
    split at h2
    · next z ez => exact ⟨ρ2, st2, x, y, z, S2, rv.mono l2 e2, rw', ez, fun w' r' => Res.post.now S2 h2 w' r'⟩
    · exact h2.elim

def cutP (xs : List PV) (lo hi : Option Int) : List PV := (xs.drop (HT.sIx xs.length 0 lo)).take (HT.sIx xs.length xs.length hi - HT.sIx xs.length 0 lo)
theorem cut_rel {K : PySem.W.Frag} {ρ : Rho} {H : Hp} {xs : List PV} {vs : List V} (r : RelPs K ρ H xs vs) (lo hi : Option Int) : RelPs K ρ H (cutP xs lo hi) (cutV vs lo hi) := by
  unfold cutP cutV
  rw [r.length]
  exact (r.drop _).take _
def slP (x : PV) (lo hi : Option Int) (st : Sto) : Res PV := match x with
  | .tup xs => if HT.sIx xs.length 0 lo = 0 ∧ HT.sIx xs.length xs.length hi = xs.length then .ok x st else .ok (.tup (cutP xs lo hi)) st
  | .ktp xs => if HT.sIx xs.length 0 lo = 0 ∧ HT.sIx xs.length xs.length hi = xs.length then .ok x st else .ok (.tup (cutP xs lo hi)) st
  | .rls xs => mkNew (.lst (cutP xs lo hi)) st
  | .ref n => match st.get n with
    | some (.lst xs) => mkNew (.lst (cutP xs lo hi)) st
    | _ => .stuck
  | .str z => if sz z.length = true then .ok (.str (cutS z lo hi)) st else .stuck
  | _ => .stuck
abbrev MO := Sl → Sto → Res (Option Int)
def moNone : MO := fun _ st => .ok none st
def moSome (f : ME) : MO := fun σ st => (f σ st).bind fun x st1 => match x with
  | .int i => .ok (some i) st1
  | _ => .stuck
def tMO (K : PySem.W.Frag) (cl : CT) (W : WX) (f : MO) : TO := fun σ H Q => ∃ ρ st σp, Sim K cl ρ st H ∧ RelS K ρ H σp σ ∧ (f σp st).post K cl ρ H (fun o _ _ H' => Q o H') fun C d H' => W C d σ H'
theorem _root_.L2.PO.imp {X : Cx} {e : Option Expr} {t t' : TO} (h : L2.PO X e t) (i : ∀ σ H Q, t' σ H Q → t σ H Q) : L2.PO X e t' := ⟨fun pins s σ H Q I q => h.run pins s σ H Q I (i σ H Q q)⟩
theorem mo_none : L2.PO X none (tMO X.K cl W moNone) := po_none.imp fun σ H Q ⟨ρ, st, σp, S, rs, h⟩ => Res.post.now S h
theorem mo_some (he : PE X e (tM X.K cl W fe)) : L2.PO X (some e) (tMO X.K cl W (moSome fe)) := (po_some he).imp fun σ H Q ⟨ρ, st, σp, S, rs, h⟩ =>
  ⟨ρ, st, σp, S, rs, Res.post.imp (Res.post.bind h) (fun x st1 ρ1 H1 l1 e1 S1 h1 v rv => by
    split at h1
    · cases rv; exact ⟨_, rfl, Res.post.now S1 h1⟩
    · exact h1.elim) fun _ _ _ z => z⟩
def mSl (fe : ME) (lo hi : MO) : ME := fun σ st => (fe σ st).bind fun x st1 => (lo σ st1).bind fun l st2 => (hi σ st2).bind fun u st3 => slP x l u st3
def rSl (K : PySem.W.Frag) : V → Option Int → Option Int → Hp → VK → Prop := fun x lo hi H Q => rSlL K x lo hi H Q ∨ rSlA K x lo hi H Q ∨ rSlS x lo hi H Q
theorem me_slice {lo hi : Option Expr} {fl fh : MO} (he : PE X e (tM X.K cl W fe)) (hl : L2.PO X lo (tMO X.K cl W fl)) (hh : L2.PO X hi (tMO X.K cl W fh)) : PE X (.Subscript e (.Slice lo hi none p2) pos) (tM X.K cl W (mSl fe fl fh)) :=
  (pe_slice (r := rSl X.K) (sl_list.or (sl_tupA.or sl_str)) he hl hh).imp fun σ H Q ⟨ρ, st, σp, S, rs, h⟩ => by
    refine ⟨ρ, st, σp, S, rs, Res.post.imp (Res.post.bind h) (fun x st1 ρ1 H1 l1 e1 S1 h1 v rv => ?_) fun _ _ _ z => z⟩
    refine ⟨ρ1, st1, σp, S1, rs.mono l1 e1, Res.post.imp (Res.post.bind h1) (fun l st2 ρ2 H2 l2 e2 S2 h2 => ?_) fun _ _ _ z => z⟩
    refine ⟨ρ2, st2, σp, S2, (rs.mono l1 e1).mono l2 e2, Res.post.imp (Res.post.bind h2) (fun u st3 ρ3 H3 l3 e3 S3 h3 => ?_) fun _ _ _ z => z⟩
    have rv := (rv.mono l2 e2).mono l3 e3
    have tp : ∀ {xs : List PV} {ws : List V} {a : Addr}, v = .ref a → SqT X.K H3 a ws → RelPs X.K ρ3 H3 xs ws → (if HT.sIx xs.length 0 l = 0 ∧ HT.sIx xs.length xs.length u = xs.length then Res.ok x st3 else .ok (.tup (cutP xs l u)) st3).post X.K cl ρ3 H3 (Val X.K Q) (fun C d H' => W C d σ H') → rSlA X.K v l u H3 Q := fun {xs ws a} ev hq rr h => by
      rw [rr.length] at h
      refine ⟨a, ws, ev, hq, fun z => ?_, fun z p hp => ?_⟩
      · rw [if_pos z] at h
        rw [← ev]
        exact Res.post.now S3 h _ rv
      · rw [if_neg z] at h
        exact new_tup S3 hp (cut_rel rr l u) (post_calm (E' := NoE) (fun _ _ q => nomatch q) h)
    unfold slP at h3
    split at h3
    · cases rv with
      | tup hq rr => exact .inr (.inl (tp rfl (SqT.of hq) rr h3))
    · cases rv with
      | ktp hq rr => exact .inr (.inl (tp rfl hq.sq rr h3))
    · cases rv with
      | rls hq rr => exact .inl ⟨_, _, rfl, hq.sql, fun p hp => new_lst S3 hp (cut_rel rr l u) h3⟩
    · split at h3
      · next eq =>
        cases rv with
        | ref hr =>
          obtain ⟨vs, hq, rr⟩ := S3.at_ hr eq
          exact .inl ⟨_, _, rfl, SqL.of hq, fun p hp => new_lst S3 hp (cut_rel rr l u) h3⟩
      · exact h3.elim
    · split at h3
      · next hz =>
        cases rv
        exact .inr (.inr ⟨_, rfl, sz_ok hz, Res.post.now S3 h3 _ (.str _)⟩)
      · exact h3.elim
    · exact h3.elim

def anyEq (f : PV → Option Bool) : List PV → Option Bool
  | [] => some false
  | x :: r => match f x, anyEq f r with
    | some a, some b => some (a || b)
    | _, _ => none
theorem anyEq_all {f : PV → Option Bool} : ∀ {xs : List PV} {c : Bool}, anyEq f xs = some c → ∀ x ∈ xs, ∃ b, f x = some b
  | x :: r, c, h, y, hy => by
    rw [anyEq] at h
    split at h
    · next a b e1 e2 =>
      rcases List.mem_cons.mp hy with rfl | hy
      · exact ⟨a, e1⟩
      · exact anyEq_all e2 y hy
    · cases h
theorem anyEq_some {f : PV → Option Bool} : ∀ {xs : List PV} {c : Bool}, anyEq f xs = some c → (c = true ↔ ∃ x ∈ xs, f x = some true)
  | [], c, h => by
    rw [anyEq] at h
    cases h
    simp
  | x :: r, c, h => by
    rw [anyEq] at h
    split at h
    · next a b e1 e2 =>
      cases h
      have ih := anyEq_some e2
      rw [Bool.or_eq_true, ih]
      constructor
      · rintro (h | ⟨y, h1, h2⟩)
        · exact ⟨x, List.mem_cons_self, by rw [e1, h]⟩
        · exact ⟨y, List.mem_cons_of_mem _ h1, h2⟩
      · rintro ⟨y, h1, h2⟩
        rcases List.mem_cons.mp h1 with rfl | h1
        · rw [e1] at h2; exact .inl (Option.some.inj h2)
        · exact .inr ⟨y, h1, h2⟩
    · cases h
/-- x in y -/
def inP (x y : PV) (st : Sto) : Option Bool := match y with
  | .str z => match x with
    | .str w => some (!(Builtin.Str.occurrences z w 0 z.length 1).isEmpty)
    | _ => none
  | .ref n => match st.get n with
    | some (.dct kvs lk) => if kfit kvs lk x = true then some (dgetP kvs x).isSome else none
    | some (.lst xs) => anyEq (fun z => eqP st 60 z x) xs
    | _ => none
  | .tup xs => anyEq (fun z => eqP st 60 z x) xs
  | .ktp xs => anyEq (fun z => eqP st 60 z x) xs
  | .rls xs => anyEq (fun z => eqP st 60 z x) xs
  | _ => none
def oIn (neg : Bool) : PV → PV → Sto → Res PV := fun x y st => match inP x y st with
  | some b => .ok (.bl (if neg then !b else b)) st
  | none => .stuck
theorem calm_in {neg : Bool} : Calm2 (oIn neg) := fun x y st e s' h => by unfold oIn at h; split at h <;> cases h
/-- the items' answers as a function of the machine's values -/
theorem items_in {pins : List (Addr × Obj)} {σ : L2.St} {H : Hp} {s : Shared} {ρ : Rho} {st : Sto} {x : PV} {v : V} {vu : Value} {xs : List PV} {vs : List V} {its : List Value} {b : Bool}
    (hu : X.A.units + 64 < cLine) (I : Inv X pins σ H s) (S : Sim X.K cl ρ st H) (rx : RelP X.K ρ H x v) (rv : RelV v vu) (rr : RelPs X.K ρ H xs vs) (ru : Vals vs its) (h : anyEq (fun z => eqP st 60 z x) xs = some b) :
    ∃ f : Value → Bool, (∀ y, y ∈ its.toArray → SeqAt.EqAt X.A.in1 s y vu (f y)) ∧ its.toArray.any f = b := by
  classical
  refine ⟨fun u => decide (∃ z w, z ∈ xs ∧ RelP X.K ρ H z w ∧ RelV w u ∧ eqP st 60 z x = some true), fun u hu' => ?_, ?_⟩
  · have hu2 : u ∈ its := by simpa using hu'
    obtain ⟨j, hj⟩ := List.mem_iff_getElem?.mp hu2
    have hjl := (List.getElem?_eq_some_iff.mp hj).1
    have l1 := ru.length
    have l2 := rr.length
    obtain ⟨z, hz⟩ : ∃ z, xs[j]? = some z := ⟨xs[j]'(by omega), List.getElem?_eq_getElem (by omega)⟩
    obtain ⟨w, hw, rz⟩ := rr.get hz
    obtain ⟨u', hu3, rw'⟩ := ru.get hw
    rw [hj] at hu3
    cases hu3
    obtain ⟨c, hc⟩ := anyEq_all h z (List.mem_of_getElem? hz)
    have E := eqP_at I S 60 (A := X.A.in1) (by show X.A.units + 1 + 60 < cLine; omega) rz rx rw' rv hc
    cases c with
    | true =>
      have : decide (∃ z w, z ∈ xs ∧ RelP X.K ρ H z w ∧ RelV w u ∧ eqP st 60 z x = some true) = true := decide_eq_true ⟨z, w, List.mem_of_getElem? hz, rz, rw', hc⟩
      show SeqAt.EqAt _ _ _ _ (decide _)
      rw [this]
      exact E
    | false =>
      have : decide (∃ z w, z ∈ xs ∧ RelP X.K ρ H z w ∧ RelV w u ∧ eqP st 60 z x = some true) = false := decide_eq_false fun ⟨z2, w2, h1, h2, h3, h4⟩ => by
        have e1 : w2 = w := h3.inj rw'
        subst e1
        have e2 := RelP.inj I S h2 rz
        subst e2
        rw [hc] at h4
        cases h4
      show SeqAt.EqAt _ _ _ _ (decide _)
      rw [this]
      exact E
  · have hs := anyEq_some h
    rw [Bool.eq_iff_iff, hs]
    have e0 : ∀ f : Value → Bool, its.toArray.any f = its.any f := fun f => by simp
    rw [e0, List.any_eq_true]
    constructor
    · rintro ⟨u, hu2, hd⟩
      obtain ⟨z, w, h1, _, _, h4⟩ := of_decide_eq_true hd
      exact ⟨z, h1, h4⟩
    · rintro ⟨z, h1, h2⟩
      obtain ⟨j, hj⟩ := List.mem_iff_getElem?.mp h1
      obtain ⟨w, hw, rz⟩ := rr.get hj
      obtain ⟨u, hu3, rw'⟩ := ru.get hw
      exact ⟨u, List.mem_of_getElem? hu3, decide_eq_true ⟨z, w, h1, rz, rw', h2⟩⟩
theorem ow_in (hu : X.A.units + 64 < cLine) : OpW X cl (compareOp .In) (oIn false) := fun pins s σ H ρ st x y v w vu wu Q I S rx ry rv rw' h => by
  unfold oIn at h
  split at h
  · next b e =>
    have fin : Q (.bl b) H := Res.post.now S h _ (.bl _)
    have sq : ∀ {xs : List PV} {vs : List V} {a : Addr}, wu = .ref a → (SqL X.K H a vs ∨ SqT X.K H a vs) → RelPs X.K ρ H xs vs → anyEq (fun z => eqP st 60 z x) xs = some b → wpAny (model X.prog X.w) X.A (compareOp .In vu wu) (EP X pins σ Q) X.xe s := fun {xs vs a} ew hq rr h => by
      subst ew
      rcases hq with hq | hq
      · obtain ⟨its, ru, pl, _⟩ := I.list hq
        obtain ⟨f, h1, h2⟩ := items_in hu I S rx rv rr ru h
        exact SeqAt.in_listAt f pl.isList h1 ⟨.bl b, H, I, by rw [h2]; rfl, fin⟩
      · obtain ⟨its, ru, pl, _⟩ := I.tuple hq
        obtain ⟨f, h1, h2⟩ := items_in hu I S rx rv rr ru h
        exact SeqAt.in_tupleAt f pl h1 ⟨.bl b, H, I, by rw [h2]; rfl, fin⟩
    unfold inP at e
    split at e
    · split at e
      · cases e
        cases rx
        cases ry
        exact op_in_str pins s σ H _ _ vu wu Q I rv rw' ⟨_, _, rfl, rfl, fin⟩
      · cases e
    · split at e
      · next kvs lk eq =>
        split at e
        · next hk =>
          cases e
          cases ry with
          | @ref _ a hr =>
            obtain rfl : wu = Value.ref a := rw'
            refine dget_with I S hr eq rx hk fun H' o I' g or bk => ?_
            refine d_in (by omega) I' g rv fun s' I2 => ⟨.bl o.isSome, H, bk s' I2, rfl, ?_⟩
            have : o.isSome = (dgetP kvs x).isSome := by
              cases o <;> cases q : dgetP kvs x <;> rw [q] at or <;> first | rfl | exact or.elim
            rw [this]
            exact fin
        · cases e
      · next eq =>
        cases ry with
        | ref hr =>
          cases rw'
          obtain ⟨vs, hq, rr⟩ := S.at_ hr eq
          exact sq rfl (.inl (SqL.of hq)) rr e
      · cases e
    · cases ry with
      | tup hq rr => cases rw'; exact sq rfl (.inr (SqT.of hq)) rr e
    · cases ry with
      | ktp hq rr => cases rw'; exact sq rfl (.inr hq.sq) rr e
    · cases ry with
      | rls hq rr => cases rw'; exact sq rfl (.inl hq.sql) rr e
    · cases e
  · exact h.elim
theorem ow_notin (hu : X.A.units + 64 < cLine) : OpW X cl (compareOp .NotIn) (oIn true) := fun pins s σ H ρ st x y v w vu wu Q I S rx ry rv rw' h => by
  unfold oIn at h
  split at h
  · next b e =>
    have fin : Q (.bl (!b)) H := Res.post.now S h _ (.bl _)
    have sq : ∀ {xs : List PV} {vs : List V} {a : Addr}, wu = .ref a → (SqL X.K H a vs ∨ SqT X.K H a vs) → RelPs X.K ρ H xs vs → anyEq (fun z => eqP st 60 z x) xs = some b → wpAny (model X.prog X.w) X.A (compareOp .NotIn vu wu) (EP X pins σ Q) X.xe s := fun {xs vs a} ew hq rr h => by
      subst ew
      rcases hq with hq | hq
      · obtain ⟨its, ru, pl, _⟩ := I.list hq
        obtain ⟨f, h1, h2⟩ := items_in hu I S rx rv rr ru h
        exact SeqAt.notIn_listAt f pl.isList h1 ⟨.bl (!b), H, I, by rw [h2]; rfl, fin⟩
      · obtain ⟨its, ru, pl, _⟩ := I.tuple hq
        obtain ⟨f, h1, h2⟩ := items_in hu I S rx rv rr ru h
        exact SeqAt.notIn_tupleAt f pl h1 ⟨.bl (!b), H, I, by rw [h2]; rfl, fin⟩
    unfold inP at e
    split at e
    · split at e
      · cases e
        cases rx
        cases ry
        exact op_notin_str pins s σ H _ _ vu wu Q I rv rw' ⟨_, _, rfl, rfl, fin⟩
      · cases e
    · split at e
      · next kvs lk eq =>
        split at e
        · next hk =>
          cases e
          cases ry with
          | @ref _ a hr =>
            obtain rfl : wu = Value.ref a := rw'
            refine dget_with I S hr eq rx hk fun H' o I' g or bk => ?_
            refine d_notIn (by omega) I' g rv fun s' I2 => ⟨.bl (!o.isSome), H, bk s' I2, rfl, ?_⟩
            have : o.isSome = (dgetP kvs x).isSome := by
              cases o <;> cases q : dgetP kvs x <;> rw [q] at or <;> first | rfl | exact or.elim
            rw [this]
            exact fin
        · cases e
      · next eq =>
        cases ry with
        | ref hr =>
          cases rw'
          obtain ⟨vs, hq, rr⟩ := S.at_ hr eq
          exact sq rfl (.inl (SqL.of hq)) rr e
      · cases e
    · cases ry with
      | tup hq rr => cases rw'; exact sq rfl (.inr (SqT.of hq)) rr e
    · cases ry with
      | ktp hq rr => cases rw'; exact sq rfl (.inr hq.sq) rr e
    · cases ry with
      | rls hq rr => cases rw'; exact sq rfl (.inl hq.sql) rr e
    · cases e
  · exact h.elim
theorem me_in (hu : X.A.units + 64 < cLine) (ha : PE X a (tM X.K cl W fa)) (hb : PE X b (tM X.K cl W fb)) (hk : behindInMarks .In b = false := by first | exact nomark _ | rfl) : PE X (.Compare a [.In] [b] pos) (tM X.K cl W (mOp (oIn false) fa fb)) := me_cmp (ow_in hu) calm_in ha hb hk
theorem me_notin (hu : X.A.units + 64 < cLine) (ha : PE X a (tM X.K cl W fa)) (hb : PE X b (tM X.K cl W fb)) (hk : behindInMarks .NotIn b = false := by first | exact nomark _ | rfl) : PE X (.Compare a [.NotIn] [b] pos) (tM X.K cl W (mOp (oIn true) fa fb)) := me_cmp (ow_notin hu) calm_in ha hb hk

def tyOf (x : PV) (st : Sto) : Option String := match x with
  | .non => some "NoneType"
  | .bl _ => some "bool"
  | .int _ => some "int"
  | .str _ => some "str"
  | .tup _ => some "tuple"
  | .ktp _ => some "tuple"
  | .rls _ => some "list"
  | .ref n => match st.get n with
    | some (.lst _) => some "list"
    | some (.dct kvs lk) => if lk = true ∧ kvs.all (fun p => (keyK p.1).isSome) = false then none else some "dict"
    | _ => none
  | .ty _ => none
def kitTy (t c : String) : Option Bool := if t = c then some true else if t = "bool" ∧ c = "int" then some true else
  if (t = "NoneType" ∨ t = "bool" ∨ t = "int" ∨ t = "str" ∨ t = "tuple" ∨ t = "list" ∨ t = "dict") ∧ (c = "bool" ∨ c = "int" ∨ c = "str" ∨ c = "tuple" ∨ c = "list" ∨ c = "dict") then some false else none
theorem kitTy_ok {K : PySem.W.Frag} {t c : String} {b : Bool} (h : kitTy t c = some b) : PySem.W.kitOne K (.type t) (.type c) = some b := by
  unfold kitTy at h
  split at h
  · next e =>
    cases h
    subst e
    unfold PySem.W.kitOne
    rw [if_pos (by simp)]
  · split at h
    · next e =>
      cases h
      obtain ⟨rfl, rfl⟩ := e
      rfl
    · split at h
      · next n1 n2 e =>
        cases h
        obtain ⟨h1, h2⟩ := e
        rcases h1 with rfl | rfl | rfl | rfl | rfl | rfl | rfl <;> rcases h2 with rfl | rfl | rfl | rfl | rfl | rfl <;> first | exact absurd rfl n1 | exact absurd ⟨rfl, rfl⟩ n2 | rfl
      · cases h
def gIsi : PF := fun xs st => match xs with
  | [x, .ty c] => match tyOf x st with
    | some t => (kitTy t c).map fun b => (.bl b, st)
    | none => none
  | _ => none
theorem ty_at {K : PySem.W.Frag} {ρ : Rho} {st : Sto} {H : Hp} {x : PV} {v : V} {t : String} (S : Sim K cl ρ st H) (r : RelP K ρ H x v) (h : tyOf x st = some t) : TyX K H v (.type t) := by
  unfold tyOf at h
  split at h
  · cases h; cases r; exact .base .non
  · cases h; cases r; exact .base (.bl _)
  · cases h; cases r; exact .base (.int _)
  · cases h; cases r; exact .base (.str _)
  · cases h
    cases r with
    | tup hq _ => exact .base (.tup hq)
  · cases h
    cases r with
    | ktp hq _ => obtain ⟨o, _, _, h1, h2, _⟩ := hq; exact .kTuple h1 h2
  · cases h
    cases r with
    | rls hq _ =>
      rcases hq with ⟨o, hq⟩ | ⟨o, _, _, h1, h2, _⟩
      · exact .base (.frz hq)
      · exact .kList h1 h2
  · split at h
    · next eq =>
      cases h
      cases r with
      | ref hr =>
        obtain ⟨vs, hq, rr⟩ := S.at_ hr eq
        exact .base (.lst hq)
    · next kvs lk eq =>
      split at h
      · cases h
      · next hn =>
        cases h
        cases r with
        | ref hr =>
          obtain ⟨u, rd, q⟩ := S.at_ hr eq
          cases lk with
          | false =>
            rw [if_neg Bool.false_ne_true] at q
            rcases rd with ⟨ws, rfl, rd⟩ | ⟨ne, ws, rfl, rd⟩
            · exact .base (.dK q)
            · exact .base (.dT q)
          | true =>
            have hk : kvs.all (fun p => (keyK p.1).isSome) = true := by
              cases z : kvs.all (fun p => (keyK p.1).isSome) with
              | true => rfl
              | false => exact absurd ⟨rfl, z⟩ hn
            obtain ⟨ws, hq, rr⟩ := rd_dk S hr eq hk
            rcases hq with hq | ⟨o, hq⟩
            · exact .base (.dK hq)
            · exact .fDict hq
    · cases h
  · cases h
theorem cr_isi : CallR X (.builtin "isinstance") (rG X.K cl gIsi) := CR_imp call_isi fun ρ st H xs vs v st' Q S rs e h => by
  unfold gIsi at e
  split at e
  · next x c =>
    split at e
    · next t et =>
      obtain ⟨b, hb, h2⟩ := Option.map_eq_some_iff.mp e
      cases h2
      cases rs with
      | cons rx rr =>
        cases rr with
        | cons ry rr =>
          cases rr
          cases ry
          exact ⟨_, _, _, _, b, rfl, .ty c, ty_at S rx et, kitTy_ok hb, Res.post.now S h _ (.bl _)⟩
    · cases e
  · cases e
/-- a built-in type's name as a value -/
theorem me_tyn {x : Str} {n : String} (hg : Gl X x) (hm : X.mg x = none) (hv : bootBuiltins x = some (.type n)) (hn : x ≠ "__name__" := by decide) (hd : (x == ("__debug__" : Str)) = false := by decide) : PE X (.Name x pos) (tM X.K cl W (mC (.ty n))) :=
  me_c (pe_bltn (v := .ty n) hg hm hv rfl hn hd) fun _ _ => .ty n
end
end MP
set_option Elab.async false
set_option linter.all false
set_option maxRecDepth 100000
set_option maxHeartbeats 2000000
namespace MP
open PySem PySem.Spec L2
/-- what a method's receiver must be -/
def TyOk (X : Cx) (cl : CT) (T : String) (tp : PV → Sto → Bool) : Prop := ∀ (pins : List (Addr × Obj)) (σ : L2.St) (H : Hp) (s : Shared) (ρ : Rho) (st : Sto) (x : PV) (v : V) (u : Value), Inv X pins σ H s → Sim X.K cl ρ st H → RelP X.K ρ H x v → RelV v u → tp x st = true →
  s.TypeIs u T ∧ ∀ a, u = .ref a → ∃ ob, s.heap.get? a = some ob ∧ ob.dict = none
def tpL (x : PV) (st : Sto) : Bool := match x with
  | .ref n => match st.get n with
    | some (.lst _) => true
    | _ => false
  | .rls _ => true
  | _ => false
def tpD (x : PV) (st : Sto) : Bool := match x with
  | .ref n => match st.get n with
    | some (.dct _ _) => true
    | _ => false
  | _ => false
def tpS (x : PV) (_ : Sto) : Bool := match x with
  | .str _ => true
  | _ => false
section
variable {X : Cx} {cl : CT} {W : WX}
theorem ty_list : TyOk X cl "list" tpL := fun pins σ H s ρ st x v u I S rx rv h => by
  unfold tpL at h
  split at h
  · split at h
    · next eq =>
      cases rx with
      | ref hr =>
        obtain ⟨vs, q, _⟩ := S.at_ hr eq
        exact tyV_is I rv (.inl ⟨rfl, _, SqL.of q⟩)
    · cases h
  · cases rx with
    | rls q _ => exact tyV_is I rv (.inl ⟨rfl, _, q.sql⟩)
  · cases h
theorem ty_dict : TyOk X cl "dict" tpD := fun pins σ H s ρ st x v u I S rx rv h => by
  unfold tpD at h
  split at h
  · split at h
    · next eq =>
      cases rx with
      | @ref _ a hr =>
        obtain ⟨w, rd, q⟩ := S.at_ hr eq
        obtain rfl : u = Value.ref a := rv
        have d : IsD H a := by
          rcases rd with ⟨ws, rfl, _⟩ | ⟨_, ws, rfl, _⟩
          · exact .inl ⟨ws, rd_lk q⟩
          · exact .inr ⟨ws, rd_lk q⟩
        obtain ⟨t1, t2, _⟩ := isD_at I d
        exact ⟨t1, t2⟩
    · cases h
  · cases h
theorem ty_str : TyOk X cl "str" tpS := fun pins σ H s ρ st x v u I S rx rv h => by
  unfold tpS at h
  split at h
  · cases rx
    obtain ⟨t, rfl⟩ := rv
    exact ⟨typeIs_str _ _ _, fun _ e => nomatch e⟩
  · cases h
variable {o e : Expr} {es : List Expr} {fo : ME} {ga : MEs} {name : Str} {apos cpos : Pos} {T id : String} {g : PF} {tp : PV → Sto → Bool}
def mBM (tp : PV → Sto → Bool) (g : PF) (fo : ME) (ga : MEs) : ME := fun σ st => (fo σ st).bind fun x st1 => if tp x st1 = true then (ga σ st1).bind fun xs st2 => (match g (x :: xs) st2 with
  | some (v, st3) => .ok v st3
  | none => .stuck) else .stuck
theorem me_bm0 (pa : PlainAttrs T) (slot : Slot T name id) (hty : typeOf (.builtin id) = pure (.type "method_descriptor")) (ht : TyOk X cl T tp) (hm : CallR X (.builtin id) (rG X.K cl g)) (ho : PE X o (tM X.K cl W fo))
    (hbase : attributeBase o name X.env (eval o X.env) = eval o X.env := by rfl) (hline : (apos.endLine == cpos.line) = true := by rfl) : PE X (.Call (.Attribute o name apos) [] [] cpos) (tM X.K cl W (mBM tp g fo mNil)) := by
  refine ⟨fun pins s σ H Q I ⟨ρ, st, σp, S, rs, h⟩ => ?_⟩
  refine wpAny_Call_method0_late hbase hline (thn (ho.run pins s σ H _ I (tM.beh S rs (Res.post.bind h))) fun v s1 ⟨x, H1, I1, r1, ρ1, st1, y, S1, rs1, ry, h1⟩ => ?_)
  dsimp only at h1
  split at h1
  · next htp =>
    obtain ⟨t1, t2⟩ := ht pins σ H1 s1 ρ1 st1 y x v I1 S1 ry r1 htp
    refine ⟨T, id, pa, slot, hty, t1, t2, Calls.callWith_builtin rfl (PySem.evalArgs_none ?_)⟩
    have h2 := Res.post.now S1 (Res.post.bind (r := mNil σp st1) h1)
    split at h2
    · next z st2 eq => exact hm pins s1 σ H1 [x] [v] Q I1 (.cons r1 .nil) ⟨ρ1, st1, [y], z, st2, S1, .cons ry .nil, eq, h2⟩
    · exact h2.elim
  · exact h1.elim
theorem me_bm (pa : PlainAttrs T) (slot : Slot T name id) (hty : typeOf (.builtin id) = pure (.type "method_descriptor")) (ht : TyOk X cl T tp) (hm : CallR X (.builtin id) (rG X.K cl g)) (ho : PE X o (tM X.K cl W fo)) (ha : PA X (e :: es) (tMA X.K cl W ga))
    (hbase : attributeBase o name X.env (eval o X.env) = eval o X.env := by rfl)
    (hfew : ((backTo cpos (starEach (e :: es) X.env)).all (fun x => !x.1) && (backToKw cpos (keywordEach [] X.env)).all (fun x => x.1.isSome)
      && decide ((e :: es).length + ([] : List Keyword).length + (if ([] : List Keyword).isEmpty then 0 else 1) < 30)) = true := by rfl)
    (hline : (apos.endLine == cpos.line) = true := by rfl) (hs : starEach (e :: es) X.env = (false, eval e X.env) :: starEach es X.env := by rfl) (hplain : (backTo cpos (starEach es X.env)).any (·.1) = false := by rfl) :
    PE X (.Call (.Attribute o name apos) (e :: es) [] cpos) (tM X.K cl W (mBM tp g fo ga)) := by
  refine ⟨fun pins s σ H Q I ⟨ρ, st, σp, S, rs, h⟩ => ?_⟩
  refine wpAny_Call_method_late hbase hfew hline rfl (thn (ho.run pins s σ H _ I (tM.beh S rs (Res.post.bind h))) fun v s1 ⟨x, H1, I1, r1, ρ1, st1, y, S1, rs1, ry, h1⟩ => ?_)
  dsimp only at h1
  split at h1
  · next htp =>
    obtain ⟨t1, t2⟩ := ht pins σ H1 s1 ρ1 st1 y x v I1 S1 ry r1 htp
    refine ⟨T, id, pa, slot, hty, t1, t2, ?_⟩
    have hA := ha.run cpos pins s1 σ H1 _ I1 (tMA.beh S1 rs1 (Res.post.imp (Res.post.bind h1) (fun ys st2 ρ2 H2 l2 e2 s2 h2 => (⟨ry.mono l2 e2, h2⟩ : RelP X.K ρ2 H2 y x ∧ _)) fun _ _ _ z => z))
    rw [hs] at hA ⊢
    refine Calls.callWith_builtin (by show (false || (backTo cpos (starEach es X.env)).any (·.1)) = false; rw [hplain] <;> rfl) (Calls.evalArgs_plain ?_)
    refine thn hA fun us s2 ⟨vs, H2, I2, r2, ρ2, st2, ys, S2, rs2, rys, ry2, h2⟩ => ?_
    split at h2
    · next z st3 eq => exact hm pins s2 σ H2 (x :: vs) (v :: us) Q I2 (.cons r1 r2) ⟨ρ2, st2, y :: ys, z, st3, S2, .cons ry2 rys, eq, h2⟩
    · exact h2.elim
  · exact h1.elim

theorem lst_write {K : PySem.W.Frag} {ρ : Rho} {st : Sto} {H : Hp} {n : Nat} {a : Addr} {vs ws : List V} {ys : List PV} (S : Sim K cl ρ st H) (hr : ρ n = some a) (q : H a = some (.lst vs)) (r : RelPs K ρ H ys ws) :
    Ext K H (upd H a (.lst ws)) ∧ Sim K cl ρ (st.set n (.lst ys)) (upd H a (.lst ws)) := by
  have ex : Ext K H (upd H a (.lst ws)) := Ext.write q trivial
  exact ⟨ex, S.write hr q trivial ⟨ws, upd_same, r.mono (Le.refl _) ex⟩⟩
/-- a method of MtM's shape -/
theorem MR_imp {r : V → List V → Hp → VK → Prop} (h : MtM X id r) (i : ∀ ρ st H x xs y ys v st' (Q : VK), Sim X.K cl ρ st H → RelP X.K ρ H x y → RelPs X.K ρ H xs ys → g (x :: xs) st = some (v, st') → (Res.ok v st').post X.K cl ρ H (Val X.K Q) NoE → r y ys H Q) (hn : ∀ st, g [] st = none) : CallR X (.builtin id) (rG X.K cl g) := by
  intro pins s σ H vs us Q I r0 ⟨ρ, st, xs, v, st', S, rs, e, q⟩
  cases rs with
  | nil => rw [hn] at e; cases e
  | cons rx rr =>
    cases r0 with
    | cons r1 r2 => exact h pins s σ H _ _ _ _ Q I r1 r2 (i ρ st H _ _ _ _ v st' Q S rx rr e q)
def gAppend : PF := fun xs st => match xs with
  | [x, y] => match ownL x st with
    | some (n, ys) => if sz (ys.length + 1) = true then some (.non, st.set n (.lst (ys ++ [y]))) else none
    | none => none
  | _ => none
theorem mr_append : CallR X (.builtin "list.append") (rG X.K cl gAppend) := MR_imp mt_append (fun ρ st H x xs y ys v st' Q S rx rs e h => by
  unfold gAppend at e
  split at e
  · next heq =>
    cases heq
    split at e
    · next n zs eo =>
      split at e
      · next hz =>
        cases e
        obtain ⟨a, vs, rfl, hr, q, r, _⟩ := ownL_at S rx eo
        cases rs with
        | cons ry rr =>
          cases rr
          refine ⟨a, vs, _, rfl, rfl, q, by rw [← r.length]; exact sz_lt hz, ?_⟩
          obtain ⟨ex, S2⟩ := lst_write S hr q (r.append (.cons ry .nil))
          exact h ρ _ (Le.refl _) ex S2 _ .non
      · cases e
    · cases e
  · cases e) fun _ => rfl
def gExtend : PF := fun xs st => match xs with
  | [x, y] => match ownL x st, ownL y st with
    | some (n, xs), some (_, ys) => if sz (xs.length + ys.length) = true then some (.non, st.set n (.lst (xs ++ ys))) else none
    | _, _ => none
  | _ => none
theorem mr_extend : CallR X (.builtin "list.extend") (rG X.K cl gExtend) := MR_imp mt_extend (fun ρ st H x xs y ys v st' Q S rx rs e h => by
  unfold gExtend at e
  split at e
  · next heq =>
    cases heq
    split at e
    · next n zs _ ws eo eo2 =>
      split at e
      · next hz =>
        cases e
        obtain ⟨a, vs, rfl, hr, q, r, _⟩ := ownL_at S rx eo
        cases rs with
        | cons ry rr =>
          cases rr
          obtain ⟨b, us, rfl, hr2, q2, r2, _⟩ := ownL_at S ry eo2
          refine ⟨a, b, vs, us, rfl, rfl, q, q2, by rw [← r.length, ← r2.length]; exact sz_ok hz, ?_⟩
          obtain ⟨ex, S2⟩ := lst_write S hr q (r.append r2)
          exact h ρ _ (Le.refl _) ex S2 _ .non
      · cases e
    · cases e
  · cases e) fun _ => rfl
theorem RelPs.dropLast {K : PySem.W.Frag} {ρ : Rho} {H : Hp} {xs : List PV} {vs : List V} (r : RelPs K ρ H xs vs) : RelPs K ρ H xs.dropLast vs.dropLast := by
  rw [List.dropLast_eq_take, List.dropLast_eq_take, r.length]
  exact r.take _
theorem RelPs.erase {K : PySem.W.Frag} {ρ : Rho} {H : Hp} {xs : List PV} {vs : List V} (r : RelPs K ρ H xs vs) (k : Nat) : RelPs K ρ H (xs.eraseIdx k) (vs.eraseIdx k) := by
  rw [List.eraseIdx_eq_take_drop_succ, List.eraseIdx_eq_take_drop_succ]
  exact (r.take _).append (r.drop _)
def gPop : PF := fun xs st => match xs with
  | [x] => match ownL x st with
    | some (n, ys) => match ys[ys.length - 1]? with
      | some y => some (y, st.set n (.lst ys.dropLast))
      | none => none
    | none => none
  | _ => none
theorem mr_pop0 : CallR X (.builtin "list.pop") (rG X.K cl gPop) := MR_imp mt_pop (fun ρ st H x xs y ys v st' Q S rx rs e h => by
  unfold gPop at e
  split at e
  · next heq =>
    cases heq
    split at e
    · next n zs eo =>
      split at e
      · next w ew =>
        cases e
        obtain ⟨a, vs, rfl, hr, q, r, _⟩ := ownL_at S rx eo
        cases rs
        obtain ⟨u, hu, ru⟩ := r.get ew
        refine ⟨a, vs, u, rfl, rfl, q, by rw [← r.length]; exact hu, ?_⟩
        obtain ⟨ex, S2⟩ := lst_write S hr q r.dropLast
        exact h ρ _ (Le.refl _) ex S2 _ (ru.mono (Le.refl _) ex)
      · cases e
    · cases e
  · cases e) fun _ => rfl
def gPopAt : PF := fun xs st => match xs with
  | [x, .int i] => match ownL x st with
    | some (n, ys) => match ixN ys.length i with
      | some k => match ys[k]? with
        | some y => if sz ys.length = true then some (y, st.set n (.lst (ys.eraseIdx k))) else none
        | none => none
      | none => none
    | none => none
  | _ => none
theorem mr_popAt : CallR X (.builtin "list.pop") (rG X.K cl gPopAt) := MR_imp mt_popAt (fun ρ st H x xs y ys v st' Q S rx rs e h => by
  unfold gPopAt at e
  split at e
  · next heq =>
    cases heq
    split at e
    · next n zs eo =>
      split at e
      · next k ek =>
        split at e
        · next w ew =>
          split at e
          · next hz =>
            cases e
            obtain ⟨a, vs, rfl, hr, q, r, _⟩ := ownL_at S rx eo
            cases rs with
            | cons ry rr =>
              cases rr
              cases ry
              obtain ⟨u, hu, ru⟩ := r.get ew
              obtain ⟨h1, h2, h3, h4⟩ := ixN_seq ek
              have hz := of_decide_eq_true hz
              refine ⟨a, vs, _, k, u, rfl, rfl, q, by omega, by omega, by rw [← r.length]; exact h1, hu, ?_⟩
              obtain ⟨ex, S2⟩ := lst_write S hr q (r.erase k)
              exact h ρ _ (Le.refl _) ex S2 _ (ru.mono (Le.refl _) ex)
          · cases e
        · cases e
      · cases e
    · cases e
  · cases e) fun _ => rfl
def gClear : PF := fun xs st => match xs with
  | [x] => match ownL x st with
    | some (n, ys) => some (.non, st.set n (.lst []))
    | none => none
  | _ => none
theorem mr_clear : CallR X (.builtin "list.clear") (rG X.K cl gClear) := MR_imp mt_clear (fun ρ st H x xs y ys v st' Q S rx rs e h => by
  unfold gClear at e
  split at e
  · next heq =>
    cases heq
    split at e
    · next n zs eo =>
      cases e
      obtain ⟨a, vs, rfl, hr, q, r, _⟩ := ownL_at S rx eo
      cases rs
      refine ⟨a, vs, rfl, rfl, q, ?_⟩
      obtain ⟨ex, S2⟩ := lst_write S hr q (ys := []) (ws := []) .nil
      exact h ρ _ (Le.refl _) ex S2 _ .non
    · cases e
  · cases e) fun _ => rfl
def insP (ys : List PV) (i : Nat) (y : PV) : List PV := ys.take i ++ y :: ys.drop i

def dctOf (x : PV) (st : Sto) : Option (Nat × List (PV × PV) × Bool) := match x with
  | .ref n => match st.get n with
    | some (.dct kvs lk) => some (n, kvs, lk)
    | _ => none
  | _ => none
theorem dctOf_at {K : PySem.W.Frag} {ρ : Rho} {st : Sto} {H : Hp} {x : PV} {v : V} {n : Nat} {kvs : List (PV × PV)} {lk : Bool} (r : RelP K ρ H x v) (h : dctOf x st = some (n, kvs, lk)) : x = .ref n ∧ st.get n = some (.dct kvs lk) ∧ ∃ a, v = .ref a ∧ ρ n = some a := by
  unfold dctOf at h
  split at h
  · split at h
    · next eq =>
      cases h
      cases r with
      | ref hr => exact ⟨rfl, eq, _, rfl, hr⟩
    · cases h
  · cases h
def gGet1 : PF := fun xs st => match xs with
  | [x, y] => match dctOf x st with
    | some (n, kvs, lk) => if kfit kvs lk y = true then some ((dgetP kvs y).getD .non, st) else none
    | none => none
  | _ => none
def gGet2 : PF := fun xs st => match xs with
  | [x, y, z] => match dctOf x st with
    | some (n, kvs, lk) => if kfit kvs lk y = true then some ((dgetP kvs y).getD z, st) else none
    | none => none
  | _ => none
theorem or_getD {K : PySem.W.Frag} {ρ : Rho} {H : Hp} {o : Option PV} {p : Option V} {x : PV} {v : V} (h : OR K ρ H o p) (r : RelP K ρ H x v) : RelP K ρ H (o.getD x) (p.getD v) := by
  cases o <;> cases p <;> first | exact h | exact h.elim | exact r
theorem mr_get1 (hu : X.A.units + 1 < cLine) : CallR X (.builtin "dict.get") (rG X.K cl gGet1) := by
  intro pins s σ H vs us Q I r ⟨ρ, st, xs, v, st', S, rs, e, h⟩
  unfold gGet1 at e
  split at e
  · split at e
    · next n kvs lk ed =>
      split at e
      · next hk =>
        cases e
        cases rs with
        | cons rx rr =>
          cases rr with
          | cons ry rr =>
            cases rr
            obtain ⟨rfl, eg, a, rfl, hr⟩ := dctOf_at rx ed
            obtain ⟨u1, u2, rfl, r1, r2⟩ := vals2 r
            cases r1
            refine dget_with I S hr eg ry hk fun H' o I' g or bk => ?_
            exact d_get1 hu I' g r2 fun w' s' I2 rw' => ⟨_, H, bk s' I2, rw', Res.post.now S h _ (or_getD or .non)⟩
      · cases e
    · cases e
  · cases e
theorem mr_get2 (hu : X.A.units + 1 < cLine) : CallR X (.builtin "dict.get") (rG X.K cl gGet2) := by
  intro pins s σ H vs us Q I r ⟨ρ, st, xs, v, st', S, rs, e, h⟩
  unfold gGet2 at e
  split at e
  · split at e
    · next n kvs lk ed =>
      split at e
      · next hk =>
        cases e
        cases rs with
        | cons rx rr =>
          cases rr with
          | cons ry rr =>
            cases rr with
            | cons rz rr =>
              cases rr
              obtain ⟨rfl, eg, a, rfl, hr⟩ := dctOf_at rx ed
              cases r with
              | cons r1 r =>
                cases r with
                | cons r2 r =>
                  cases r with
                  | cons r3 r =>
                    cases r
                    cases r1
                    refine dget_with I S hr eg ry hk fun H' o I' g or bk => ?_
                    exact d_get2 hu I' g r2 r3 fun w' s' I2 rw' => ⟨_, H, bk s' I2, rw', Res.post.now S h _ (or_getD or rz)⟩
      · cases e
    · cases e
  · cases e
/-- o[i] = v -/
def setP (o i v : PV) (st : Sto) : Option Sto := match o with
  | .ref n => match st.get n with
    | some (.lst xs) => match i with
      | .int k => match ixN xs.length k with
        | some j => some (st.set n (.lst (xs.set j v)))
        | none => none
      | _ => none
    | some (.dct kvs false) => if kfit kvs false i = true ∧ sz (kvs.length + 1) = true then some (st.set n (.dct (dputP kvs i v) false)) else none
    | _ => none
  | _ => none
def tSetP (K : PySem.W.Frag) (cl : CT) : TSet := fun o i v H Q => ∃ ρ st p q r st', Sim K cl ρ st H ∧ RelP K ρ H p o ∧ RelP K ρ H q i ∧ RelP K ρ H r v ∧ setP p q r st = some st' ∧ ∀ H', Ext K H H' → Sim K cl ρ st' H' → Q H'
theorem set_mp (hu : X.A.units + 1 < cLine) : PSet X (tSetP X.K cl) := by
  intro pins s σ H o i v ov iv u Q I ro ri rv ⟨ρ, st, p, q, r, st', S, rp, rq, rr, e, k⟩
  unfold setP at e
  split at e
  · split at e
    · next xs eg =>
      split at e
      · next kk =>
        split at e
        · next j ej =>
          cases e
          cases rq
          cases rp with
          | @ref _ a hr =>
            obtain ⟨vs, hq, rs⟩ := S.at_ hr eg
            obtain ⟨ex, S2⟩ := lst_write S hr hq (rs.set j rr)
            exact set_list pins s σ H _ _ v ov iv u Q I ro ri rv ⟨a, vs, _, j, rfl, rfl, hq, by rw [← rs.length]; exact ej, k _ ex S2⟩
        · cases e
      · cases e
    · next kvs eg =>
      split at e
      · next hk =>
        cases e
        cases rp with
        | @ref _ a hr =>
          obtain rfl : ov = Value.ref a := ro
          refine dput_with I S hr eg rq rr hk.1 (sz_lt hk.2) fun H1 H2 I1 g ex S2 => ?_
          exact d_setItem hu I1 g ri rv fun s' I2 => ⟨H2, I2, k H2 ex S2⟩
      · cases e
    · cases e
  · cases e
variable {a b c value : Expr} {fa fb fc fv : ME} {pos pos' p2 : Pos}
/-- o[i] = e -/
def sSetIx (fo fi fv : ME) : MS := fun σ st => (fv σ st).toS σ fun v st1 => (fo σ st1).toS σ fun o st2 => (fi σ st2).toS σ fun i st3 => match setP o i v st3 with
  | some st4 => .nx σ st4
  | none => .stuck
theorem ms_setIx (hu : X.A.units + 1 < cLine) (ho : PE X a (tM X.K cl W fa)) (hi : PE X b (tM X.K cl W fb)) (hv : PE X value (tM X.K cl W fv)) (hs : swapsWithSole [.Subscript a b pos'] value pos.line X.env = pure false := by rfl) (hw : swappedStores [.Subscript a b pos'] value X.env = pure none := by rfl)
    (h1 : (assignEach [.Subscript a b pos'] X.env).map (·.2) = [assign (.Subscript a b pos') X.env] := by rfl)
    (hasg : ∀ v, assign (.Subscript a b pos') X.env v = (do
      let ov ← holding [v] (eval a X.env)
      let iv ← holding [v, ov] (eval b X.env)
      standAt pos'
      holding [v, ov, iv] (setItem ov iv v)
      release [v, ov, iv] []) := by intro _; rfl) : PS X (.Assign [.Subscript a b pos'] value pos) (tMS X.K cl W (sSetIx fa fb fv)) :=
  (ps_asg hv (pg_sub ho hi (set_mp (cl := cl) hu) hasg) hs hw h1).imp fun D σ H ⟨ρ, st, σp, S, rs, h⟩ => by
    refine ⟨ρ, st, σp, S, rs, Res.post.imp (toS_post rs h) (fun v st1 ρ1 H1 l1 e1 S1 h1 vv rv => ?_) fun _ _ _ z => z⟩
    have rs1 := rs.mono l1 e1
    refine ⟨ρ1, st1, σp, S1, rs1, Res.post.imp (toS_post rs1 h1) (fun o st2 ρ2 H2 l2 e2 S2 h2 ov ro => ?_) fun _ _ _ z => z⟩
    have rs2 := rs1.mono l2 e2
    refine ⟨ρ2, st2, σp, S2, rs2, Res.post.imp (toS_post rs2 h2) (fun i st3 ρ3 H3 l3 e3 S3 h3 iv ri => ?_) fun _ _ _ z => z⟩
    split at h3
    · next st4 e4 => exact ⟨ρ3, st3, o, i, v, st4, S3, ro.mono l3 e3, ri, (rv.mono l2 e2).mono l3 e3, e4, fun H4 ex S4 => h3 ρ3 H4 σ (Le.refl _) ex S4 ((rs2.mono l3 e3).mono (Le.refl _) ex)⟩
    · exact h3.elim
/-- any other target: a, b, .. = e -/
def sAsg (g : MG) (fv : ME) : MS := fun σ st => (fv σ st).toS σ fun v st1 => match g v σ with
  | some σ2 => .nx σ2 st1
  | none => .stuck
theorem ms_asg {tg : Expr} {vs : List Nat} {g : MG} (hv : PE X value (tM X.K cl W fv)) (hg : PG X tg (tMG X.K vs g)) (hs : swapsWithSole [tg] value pos.line X.env = pure false := by rfl) (hw : swappedStores [tg] value X.env = pure none := by rfl) (h1 : (assignEach [tg] X.env).map (·.2) = [assign tg X.env] := by rfl) :
    PS X (.Assign [tg] value pos) (tMS X.K cl W (sAsg g fv)) :=
  (ps_asg hv hg hs hw h1).imp fun D σ H ⟨ρ, st, σp, S, rs, h⟩ => ⟨ρ, st, σp, S, rs, Res.post.imp (toS_post rs h) (fun v st1 ρ1 H1 l1 e1 S1 h1 vv rv => by
    split at h1
    · next σ2 eg => exact ⟨ρ1, σp, v, rs.mono l1 e1, rv, σ2, eg, fun σ' r' _ => h1 ρ1 H1 σ' (Le.refl _) (Ext.refl _) S1 r'⟩
    · exact h1.elim) fun _ _ _ z => z⟩
/-- x op= e, ints -/
def augI (op : Operator) (x y : PV) : Option PV := match op, x, y with
  | .Add, .int i, .int j => some (.int (i + j))
  | .Sub, .int i, .int j => some (.int (i - j))
  | _, _, _ => none
def sAug (op : Operator) (i : Nat) (fv : ME) : MS := fun σ st => match σ[i]? with
  | some (some x) => (fv σ st).toS σ fun y st1 => match augI op x y with
    | some z => .nx (σ.set i (some z)) st1
    | none => .stuck
  | _ => .stuck
theorem aug_go {op : Operator} {k : Int → Int → Int} {i : Nat} (hk : ∀ x y z, augI op x y = some z → ∃ a b, x = .int a ∧ y = .int b ∧ z = .int (k a b)) {D : Ends} {σ : L2.St} {H : Hp} (h : tMS X.K cl W (sAug op i fv) D σ H) : tAug i (tM X.K cl W fv) (ipI k) D σ H := by
  obtain ⟨ρ, st, σp, S, rs, h⟩ := h
  unfold sAug at h
  split at h
  · next x ex =>
    obtain ⟨v, hv, rv⟩ := rs.2 i x ex
    refine ⟨v, hv, ρ, st, σp, S, rs, Res.post.imp (toS_post rs h) (fun y st1 ρ1 H1 l1 e1 S1 h1 w rw' => ?_) fun _ _ _ z => z⟩
    split at h1
    · next z ez =>
      obtain ⟨a, b, rfl, rfl, rfl⟩ := hk x y z ez
      cases rv
      cases rw'
      exact ⟨a, b, rfl, rfl, h1 ρ1 H1 _ (Le.refl _) (Ext.refl _) S1 ((rs.mono l1 e1).set i (.int _))⟩
    · exact h1.elim
  · exact h.elim
theorem ms_augAdd {i : Nat} {x : Str} (hN : X.N.Nodup) (hi : X.N[i]? = some x) (hx : Loc X.env.scope x) (hv : PE X value (tM X.K cl W fv)) (hf : X.fn x = true ∨ X.env.scope.names.lookup x = some .local := by first | exact .inl rfl | exact .inr rfl | assumption) :
    PS X (.AugAssign (.Name x pos') .Add value pos) (tMS X.K cl W (sAug .Add i fv)) :=
  (ps_aug hN hi hx hv ip_add hf).imp fun D σ H h => aug_go (fun x y z e => by
    unfold augI at e
    split at e
    · cases e; exact ⟨_, _, rfl, rfl, rfl⟩
    · next q => cases q
    · cases e) h
theorem ms_augSub {i : Nat} {x : Str} (hN : X.N.Nodup) (hi : X.N[i]? = some x) (hx : Loc X.env.scope x) (hv : PE X value (tM X.K cl W fv)) (hf : X.fn x = true ∨ X.env.scope.names.lookup x = some .local := by first | exact .inl rfl | exact .inr rfl | assumption) :
    PS X (.AugAssign (.Name x pos') .Sub value pos) (tMS X.K cl W (sAug .Sub i fv)) :=
  (ps_aug hN hi hx hv ip_sub hf).imp fun D σ H h => aug_go (fun x y z e => by
    unfold augI at e
    split at e
    · next q => cases q
    · cases e; exact ⟨_, _, rfl, rfl, rfl⟩
    · cases e) h
end
end MP
set_option Elab.async false
set_option linter.all false
set_option maxRecDepth 100000
set_option maxHeartbeats 2000000
namespace MP
open PySem PySem.Spec L2
section
variable {prog : Program} {w : World} {A : Around} {E : Value → Shared → Prop} {s : Shared}
theorem wp_dictPut {d : Addr} {kvs : List (Key × Value)} {k : Key} {key v : Value} {Q : Unit → Shared → Prop} (hkey : (mixKind prog w).is k key = true) (hm : s.heap.DictOf (mixKind prog w) d kvs)
    (hQ : ∀ h', h'.DictOf (mixKind prog w) d (stored kvs k v) → Heap.SameBut d s.heap h' → Q () { s with heap := h' }) (hsz : kvs.length ≤ sizeLine) :
    wpAny (model prog w) A (dictPut d ((mixKind prog w).hash k) key v) Q E s := by
  obtain ⟨o, es, ep, ho, hc, hd, hk, hp, hn⟩ := hm
  have hes : es.size ≤ sizeLine := by have e1 := hp.length; have e2 : es.toList.length = es.size := by simp
                                      omega
  unfold dictPut
  refine wpAny_bind (wpAny_dictFind_of hkey ho hd hk ?_)
  have hidx : (es.findIdx? fun e => (mixKind prog w).is k e.key) = kvs.findIdx? fun kv => decide (kv.1 = k) := by
    rw [← hp.findIdx k]; obtain ⟨l⟩ := es; simp
  cases hi : es.findIdx? fun e => (mixKind prog w).is k e.key with
  | some i =>
    refine wpAny_updateDict ho hd (hQ _ ⟨_, _, ep, Heap.get?_update_self _ ho (Obj.isFreed_of_dict (Obj.data_mapDict hd _)),
      hc.mapDict _, Obj.data_mapDict hd _, hk.modify _ _, ?_, ?_⟩ (Heap.SameBut.update ..))
    · rw [stored, if_pos (any_of_findIdx_some (hidx ▸ hi))]
      have hl : (es.toList.findIdx? fun e => (mixKind prog w).is k e.key) = some i := by rw [← hi]; obtain ⟨l⟩ := es; simp
      have := hp.modify hn hl v
      obtain ⟨l⟩ := es
      simpa using this
    · rw [stored, if_pos (any_of_findIdx_some (hidx ▸ hi)), keys_map_store]; exact hn
  | none =>
    have hnot : k ∉ kvs.map (·.1) := not_mem_of_findIdx_none (hidx ▸ hi)
    have hany : ¬ (kvs.any fun kv => decide (kv.1 = k)) = true := by
      rw [List.any_eq_true]; rintro ⟨kv, hkv, he⟩
      exact hnot (List.mem_map.mpr ⟨kv, hkv, of_decide_eq_true he⟩)
    refine wpAny_updateDictKeys (hz := hes) ho hd (hQ _ ⟨_, _, ep + 1, Heap.get?_update_self _ ho (Obj.isFreed_of_dict (Obj.data_mapDictKeys hd _)),
      hc.mapDictKeys _, Obj.data_mapDictKeys hd _, hk.push hkey _, ?_, ?_⟩ (Heap.SameBut.update ..))
    · rw [stored, if_neg hany]
      have := hp.append hkey ((mixKind prog w).hash k) v
      obtain ⟨l⟩ := es
      simpa using this
    · rw [stored, if_neg hany, List.map_append, List.nodup_append]
      refine ⟨hn, by simp, ?_⟩
      intro a ha b hb
      simp only [List.map_cons, List.map_nil, List.mem_singleton] at hb
      subst hb
      exact fun e => hnot (e ▸ ha)
theorem wp_merge {d o : Addr} {kvs more : List (Key × Value)} {Q : Unit → Shared → Prop} (hdo : d ≠ o) (hoS : (o == sysModules) = false)
    (hd : s.heap.DictOf (mixKind prog w) d kvs) (ho : s.heap.DictOf (mixKind prog w) o more)
    (hQ : ∀ h', h'.DictOf (mixKind prog w) d (merged kvs more) → Heap.SameBut d s.heap h' → Q () { s with heap := h' }) (hsz : kvs.length + more.length ≤ sizeLine) :
    wpAny (model prog w) A (mergeMapping d (.ref o) false) Q E s := by
  obtain ⟨od, esd, epd, hod, hcd, hdd, hkd, hpd, hnd⟩ := id hd
  obtain ⟨oo, eso, epo, hoo, hco, hdo', hko, hpo, hno⟩ := id ho
  have hlen : more.length = eso.size := by rw [← hpo.length]; simp
  unfold mergeMapping
  refine wpAny_bind (wpAny_isInstance ho.typeIs isSubtype_dict_dict ?_)
  rw [if_pos rfl]
  refine wpAny_bind (wpAny_specialOf ho.typeIs F.slot_dict_iter.lookup (wpAny_bind (wpAny_pure ?_)))
  have ebt : (some (Value.builtin "dict.__iter__") == some (Value.builtin "dict.__iter__")) = true := by simp
  rw [ebt]
  dsimp only
  rw [if_neg (by rw [hoS]; exact Bool.false_ne_true)]
  refine wpAny_bind (wpAny_dictEntries hod hdd ?_)
  have loop : wpAny (model prog w) A (do
      let l ← dictEntries o
      let epoch ← dictEpoch o
      forIn (List.range l.size) PUnit.unit fun i (_ : PUnit) => (do
        let l' ← dictEntries o
        match l'[i]? with
          | some e => do
            holding [e.key, e.val] (dictPut d e.hash e.key e.val)
            let ep' ← dictEpoch o
            if (ep' != epoch) = true then do
                (unsupported "dict.changed-during-merge" : Sem PUnit)
                pure (ForInStep.yield PUnit.unit)
              else pure (ForInStep.yield PUnit.unit)
          | _ => do
            (unsupported "dict.changed-during-merge" : Sem PUnit)
            pure (ForInStep.yield PUnit.unit) : Sem (ForInStep PUnit))
      pure ()) Q E s := by
    refine wpAny_bind (wpAny_dictEntries hoo hdo' ?_)
    refine wpAny_bind (wpAny_dictEpoch hoo hdo' ?_)
    refine wpAny_bind ?_
    rw [List.range_eq_range']
    refine wpAny_forIn_list _
      (fun rest _ s' => ∃ h' i, s' = { s with heap := h' } ∧ rest = List.range' i (eso.size - i) ∧ i ≤ eso.size ∧ h'.DictOf (mixKind prog w) d (merged kvs (more.take i)) ∧ h'.get? o = some oo ∧ Heap.SameBut d s.heap h')
      _ ?_ ?_ _ _ ⟨s.heap, 0, rfl, by simp, Nat.zero_le _, by simpa [merged] using hd, hoo, Heap.SameBut.refl _ _⟩
    · rintro x rest b s' ⟨h', i, rfl, hr, hi, hd', hoo', hs'⟩
      have hlt : i < eso.size := by
        rcases Nat.lt_or_ge i eso.size with h | h
        · exact h
        · rw [Nat.sub_eq_zero_of_le h] at hr; simp at hr
      obtain ⟨rfl, hrest⟩ : x = i ∧ rest = List.range' (i + 1) (eso.size - (i + 1)) := by
        have e : eso.size - i = (eso.size - (i + 1)) + 1 := by omega
        rw [e, List.range'_succ] at hr
        injection hr with h1 h2
        exact ⟨h1, h2⟩
      refine wpAny_bind (wpAny_dictEntries hoo' hdo' ?_)
      rw [Array.getElem?_eq_getElem hlt]
      obtain ⟨kv, hkv⟩ : ∃ kv, more[x]? = some kv := ⟨more[x]'(by rw [hlen]; exact hlt), List.getElem?_eq_getElem _⟩
      obtain ⟨k, v⟩ := kv
      obtain ⟨hkey, hval⟩ := hpo.get? (e := eso[x]) (by simp [hlt]) hkv
      obtain ⟨k', hkey', hhash⟩ := hko eso[x] (Array.getElem_mem hlt)
      obtain rfl : k' = k := (mixKind prog w).inj _ _ _ hkey' hkey
      show wpAny _ _ (holding [eso[x].key, eso[x].val] (dictPut d eso[x].hash eso[x].key eso[x].val) >>= _) _ _ _
      rw [hhash, hval]
      have hmx : (merged kvs (more.take x)).length ≤ sizeLine := by
        have e1 := merged_length_le kvs (more.take x)
        have e2 : (more.take x).length ≤ more.length := by rw [List.length_take]; omega
        omega
      refine wpAny_bind (wpAny_holding (wp_dictPut hkey hd' (fun h'' hd'' hs'' => ?_) hmx))
      have hoo'' : h''.get? o = some oo := (hs''.2 o (Ne.symm hdo)).trans hoo'
      refine wpAny_bind (wpAny_dictEpoch hoo'' hdo' ?_)
      rw [if_neg (by simp)]
      exact wpAny_pure ⟨h'', x + 1, rfl, hrest, hlt, by rw [merged_take_succ kvs more x (k', v) hkv]; exact hd'', hoo'', hs'.trans hs''⟩
    · rintro b s' ⟨h', i, rfl, hr, hi, hd', hoo', hs'⟩
      have hin : i = eso.size := by
        rcases Nat.lt_or_ge i eso.size with h | h
        · have e : eso.size - i = (eso.size - (i + 1)) + 1 := by omega
          rw [e, List.range'_succ] at hr; exact nomatch hr
        · exact Nat.le_antisymm hi h
      refine wpAny_pure (hQ h' ?_ hs')
      rw [hin, ← hlen, List.take_length] at hd'; exact hd'
  by_cases hemp : esd.isEmpty = true
  · rw [if_pos hemp]
    refine wpAny_bind (wpAny_dictEntries hoo hdo' (wpAny_bind ?_))
    rw [← Array.forIn_toList]
    refine wpAny_forIn_list _ (fun rest _ s' => s' = s ∧ ∀ e ∈ rest, e ∈ eso.toList) _ ?_ ?_ _ _ ⟨rfl, fun _ h => h⟩
    · rintro e rest b s' ⟨rfl, hin⟩
      have he := hin e List.mem_cons_self
      obtain ⟨k, hk1, _⟩ := hko e (by simpa using he)
      cases hke : e.key with
      | ref z =>
        rw [hke] at hk1
        cases k <;> exact nomatch hk1
      | _ => exact wpAny_pure ⟨rfl, fun e' h' => hin e' (List.mem_cons_of_mem _ h')⟩
    · rintro b s' ⟨rfl, _⟩
      exact loop
  · rw [if_neg hemp]
    exact loop

theorem wp_dstar {tm : Sem Value} {tk tv : Sem Value} {Q : Value → Shared → Prop}
    (h : wpAny (model prog w) A tm (fun m s1 => wpAny (model prog w) A (mergeMapping s.heap.objs.size m false) (fun _ s2 => wpAny (model prog w) A (subDict [(tk, tv)]) (fun sub s3 => wpAny (model prog w) A (mergeMapping s.heap.objs.size (.ref sub) false) (fun _ s4 => Q (.ref s.heap.objs.size) s4) (fun _ _ => False) s3) E s2) (fun _ _ => False) s1) E
      { s with heap := s.heap.push { cls := .type "dict", data := .dict #[] } }) : wpAny (model prog w) A (dictDisplay [(none, tm), (some tk, tv)]) Q E s := by
  unfold dictDisplay
  dsimp only
  rw [List.forIn_cons]
  dsimp only
  refine wpAny_bind (wpAny_bind (wpAny_bind ?_))
  rw [if_pos (show ([] : List (Sem Value × Sem Value)).isEmpty = true from rfl)]
  refine wpAny_pure ?_
  dsimp only
  refine wpAny_bind (wpAny_alloc ?_)
  refine wpAny_bind (wpAny_holding (wpAny_mono h (fun m s1 h1 => ?_) fun _ _ x => x))
  refine wpAny_bind (wpAny_onRaise (wpAny_tryCatch (wpAny_onRaise (wpAny_holding (wpAny_mono h1 (fun _ s2 h2 => ?_) fun _ _ x => x.elim)))))
  refine wpAny_pure (wpAny_pure ?_)
  dsimp only
  refine wpAny_bind ?_
  rw [if_neg (show ¬ ([] ++ [(tk, tv)] : List (Sem Value × Sem Value)).isEmpty = true from by simp)]
  refine wpAny_bind (wpAny_holding (wpAny_mono h2 (fun sub s3 h3 => ?_) fun _ _ x => x))
  refine wpAny_bind (wpAny_onRaise (wpAny_holding (wpAny_mono h3 (fun _ s4 h4 => ?_) fun _ _ x => x.elim)))
  exact wpAny_pure (wpAny_pure h4)

theorem wp_dstar2 {tm tn : Sem Value} {Q : Value → Shared → Prop}
    (h : wpAny (model prog w) A tm (fun m s1 => wpAny (model prog w) A (mergeMapping s.heap.objs.size m false) (fun _ s2 => wpAny (model prog w) A tn (fun n s3 => wpAny (model prog w) A (mergeMapping s.heap.objs.size n false) (fun _ s4 => Q (.ref s.heap.objs.size) s4) (fun _ _ => False) s3) E s2) (fun _ _ => False) s1) E
      { s with heap := s.heap.push { cls := .type "dict", data := .dict #[] } }) : wpAny (model prog w) A (dictDisplay [(none, tm), (none, tn)]) Q E s := by
  unfold dictDisplay
  dsimp only
  rw [List.forIn_cons]
  dsimp only
  refine wpAny_bind (wpAny_bind (wpAny_bind ?_))
  rw [if_pos (show ([] : List (Sem Value × Sem Value)).isEmpty = true from rfl)]
  refine wpAny_pure ?_
  dsimp only
  refine wpAny_bind (wpAny_alloc ?_)
  refine wpAny_bind (wpAny_holding (wpAny_mono h (fun m s1 h1 => ?_) fun _ _ x => x))
  refine wpAny_bind (wpAny_onRaise (wpAny_tryCatch (wpAny_onRaise (wpAny_holding (wpAny_mono h1 (fun _ s2 h2 => ?_) fun _ _ x => x.elim)))))
  refine wpAny_pure ?_
  dsimp only
  rw [List.forIn_cons]
  dsimp only
  refine wpAny_bind (wpAny_bind ?_)
  rw [if_pos (show ([] : List (Sem Value × Sem Value)).isEmpty = true from rfl)]
  refine wpAny_pure ?_
  dsimp only
  refine wpAny_bind (wpAny_pure ?_)
  refine wpAny_bind (wpAny_holding (wpAny_mono h2 (fun n s3 h3 => ?_) fun _ _ x => x))
  refine wpAny_bind (wpAny_onRaise (wpAny_tryCatch (wpAny_onRaise (wpAny_holding (wpAny_mono h3 (fun _ s4 h4 => ?_) fun _ _ x => x.elim)))))
  refine wpAny_pure ?_
  dsimp only
  refine wpAny_pure ?_
  dsimp only
  refine wpAny_bind ?_
  rw [if_pos (show ([] : List (Sem Value × Sem Value)).isEmpty = true from rfl)]
  exact wpAny_pure (wpAny_pure h4)
end
def mergeP (kvs more : List (PV × PV)) : List (PV × PV) := more.foldl (fun acc p => dputP acc p.1 p.2) kvs
theorem relDk_merge {K : PySem.W.Frag} {ρ : Rho} {H : Hp} {more : List (PV × PV)} {ws2 : List (Key × V)} (r2 : RelDk K ρ H more ws2) : ∀ {kvs : List (PV × PV)} {ws : List (Key × V)}, RelDk K ρ H kvs ws → RelDk K ρ H (mergeP kvs more) (mergeK ws ws2) := by
  induction r2 with
  | nil => exact fun r => r
  | cons hk h _ ih => exact fun r => ih (relDk_put r hk h)
/-- {**e, k: v} -/
def mDstar1 (fe fk fv : ME) : ME := fun σ st => (fe σ (st.add (.dct [] false))).bind fun x st1 => match keysD x st1 with
  | some kvs => if x ≠ .ref st.nx ∧ st1.get st.nx = some (.dct [] false) then
      (fk σ ((st1.set st.nx (.dct kvs false)).add (.dct [] false))).bind fun y st3 => (fv σ st3).bind fun z st4 =>
        if kindK y = some false ∧ st4.get st1.nx = some (.dct [] false) ∧ st4.get st.nx = some (.dct kvs false) ∧ sz (kvs.length + 1) = true ∧ kfit kvs false y = true then .ok (.ref st.nx) ((st4.set st1.nx (.dct [(y, z)] false)).set st.nx (.dct (dputP kvs y z) false)) else .stuck
    else .stuck
  | none => .stuck
/-- {**e, **f} -/
def mDstar2 (fe fk : ME) : ME := fun σ st => (fe σ (st.add (.dct [] false))).bind fun x st1 => match keysD x st1 with
  | some kvs => if x ≠ .ref st.nx ∧ st1.get st.nx = some (.dct [] false) then
      (fk σ (st1.set st.nx (.dct kvs false))).bind fun y st3 => match keysD y st3 with
        | some more => if y ≠ .ref st.nx ∧ st3.get st.nx = some (.dct kvs false) ∧ sz (kvs.length + more.length) = true ∧ kvs.all (fun p => (keyK p.1).isSome) = true then .ok (.ref st.nx) (st3.set st.nx (.dct (mergeP kvs more) false)) else .stuck
        | none => .stuck
    else .stuck
  | none => .stuck
section
variable {X : Cx} {cl : CT} {W : WX} {pins : List (Addr × Obj)} {σ : L2.St} {H : Hp} {s : Shared} {ρ : Rho} {st : Sto}
/-- an empty dict just laid, tracked -/
theorem laid_dict (I : Inv X pins σ H s) (S : Sim X.K cl ρ st H) : H s.heap.objs.size = none ∧ Inv X pins σ (upd H s.heap.objs.size (.dK [])) { s with heap := s.heap.push { cls := .type "dict", data := .dict #[] } } ∧
    Sim X.K cl (ρ.put st.nx s.heap.objs.size) (st.add (.dct [] false)) (upd H s.heap.objs.size (.dK [])) := by
  have hn := I.hok.fresh (Nat.le_refl s.heap.objs.size)
  refine ⟨hn, I.laid (a := s.heap.objs.size) (o := .dK []) (h' := s.heap.push { cls := .type "dict", data := .dict #[] }) (t' := s.toks) (fun _ _ q => Heap.get?_push_of_some _ q) (Nat.le_refl _) (dk_empty s.heap I.big), S.new hn ⟨_, .inl ⟨[], rfl, .nil⟩, ?_⟩⟩
  rw [if_neg Bool.false_ne_true]; exact upd_same
/-- an unlocked dict with plain keys -/
theorem own_dk {n : Nat} {a : Addr} {kvs : List (PV × PV)} (S : Sim X.K cl ρ st H) (hr : ρ n = some a) (e : st.get n = some (.dct kvs false)) (hk : ∀ p r, kvs = p :: r → kindK p.1 = some false) : ∃ ws, H a = some (.dK ws) ∧ RelDk X.K ρ H kvs ws := by
  obtain ⟨u, rd, q⟩ := S.at_ hr e
  rw [if_neg Bool.false_ne_true] at q
  obtain ⟨ws, rfl, r⟩ := fit_k rd hk
  exact ⟨ws, q, r⟩
theorem kind_of_all {kvs : List (PV × PV)} (h : kvs.all (fun p => (keyK p.1).isSome) = true) : ∀ p r, kvs = p :: r → kindK p.1 = some false := fun p r e => by
  subst e
  rw [List.all_cons, Bool.and_eq_true] at h
  obtain ⟨k, hk⟩ := Option.isSome_iff_exists.mp h.1
  obtain ⟨a, b⟩ := p
  cases a <;> first | rfl | cases hk
theorem keysD_some {x : PV} {kvs : List (PV × PV)} (h : keysD x st = some kvs) : ∃ n lk, x = .ref n ∧ st.get n = some (.dct kvs lk) ∧ kvs.all (fun p => (keyK p.1).isSome) = true := by
  unfold keysD at h
  split at h
  · split at h
    · next eq =>
      split at h
      · next hk => cases h; exact ⟨_, _, rfl, eq, hk⟩
      · cases h
    · cases h
  · cases h
/-- a dict written over -/
theorem dk_over {n : Nat} {d : Addr} {ws ws' : List (Key × V)} {kvs' : List (PV × PV)} (S : Sim X.K cl ρ st H) (hr : ρ n = some d) (q : H d = some (.dK ws)) (r : RelDk X.K ρ H kvs' ws') : Ext X.K H (upd H d (.dK ws')) ∧ Sim X.K cl ρ (st.set n (.dct kvs' false)) (upd H d (.dK ws')) := by
  have ex : Ext X.K H (upd H d (.dK ws')) := Ext.write q trivial
  refine ⟨ex, S.write hr q trivial ⟨_, .inl ⟨ws', rfl, r.monoW (Le.refl _) ex.w⟩, ?_⟩⟩
  rw [if_neg Bool.false_ne_true]; exact upd_same
variable {e e2 k v : Expr} {fe fk fv : ME} {pos : Pos}
/-- the first clause: **e merged into the new dict -/
theorem dstar_first {m : Value} {n : Nat} {d : Addr} {x : PV} {w : V} {kvs : List (PV × PV)} {Q : Unit → Shared → Prop} (I : Inv X pins σ H s) (S : Sim X.K cl ρ st H) (hr : ρ n = some d) (hd : st.get n = some (.dct [] false)) (rx : RelP X.K ρ H x w) (rw' : RelV w m) (hk : keysD x st = some kvs) (hx : x ≠ .ref n)
    (h : ∀ h' ws, Inv X pins σ (upd H d (.dK ws)) { s with heap := h' } → Ext X.K H (upd H d (.dK ws)) → Sim X.K cl ρ (st.set n (.dct kvs false)) (upd H d (.dK ws)) → Q () { s with heap := h' }) :
    wpAny (model X.prog X.w) X.A (mergeMapping d m false) Q (fun _ _ => False) s := by
  obtain ⟨a, ws, rfl, q, r⟩ := keysD_at S rx hk
  obtain ⟨n2, lk, rfl, eg, hka⟩ := keysD_some hk
  obtain rfl : m = Value.ref a := rw'
  have hra : ρ n2 = some a := by cases rx with | ref z => exact z
  have hda : d ≠ a := fun z => hx (by rw [S.inj n2 n a hra (z ▸ hr)])
  obtain ⟨ws0, q0, r0⟩ := own_dk S hr hd (fun p r e => nomatch e)
  cases r0
  obtain ⟨z, hS, vs, rel, dd⟩ := dk_rd I.hok q
  obtain ⟨_, hS0, vs0, rel0, dd0⟩ := dk_of I.hok q0
  cases rel0
  have hno : (vs.map (·.1)).Nodup := let ⟨_, _, _, _, _, _, _, _, hn⟩ := dd; hn
  refine wp_merge hda hS dd0 dd (fun h' dd' hs => ?_) (by rw [List.length_nil, ← rel.length]; omega)
  rw [merged_nil_of_nodup vs hno] at dd'
  have he : ∃ q, h'.get? d = some q := let ⟨q, _, _, hq, _⟩ := dd'; ⟨q, hq⟩
  obtain ⟨ex, S2⟩ := dk_over S hr q0 r
  exact h h' ws (d_write (t' := s.toks) I (by rw [q0]; exact True.intro) hs he (dk_new z hS0 rel dd')) ex S2
theorem me_dstar2 (he : PE X e (tM X.K cl W fe)) (he2 : PE X e2 (tM X.K cl W fk)) : PE X (.Dict [none, none] [e, e2] pos) (tM X.K cl W (mDstar2 fe fk)) := by
  refine ⟨fun pins s σ H Q I ⟨ρ, st, σp, S, rs, h⟩ => ?_⟩
  show wpAny _ _ (do standAt pos; dictDisplay [(none, do let x ← eval e X.env; standAt pos; pure x), (none, do let x ← eval e2 X.env; standAt pos; pure x)]) _ _ _
  refine wpAny_bind (wpAny_standAt (wp_dstar2 ?_))
  obtain ⟨hn, I1, S1⟩ := laid_dict I S
  have hD : (ρ.put st.nx s.heap.objs.size) st.nx = some s.heap.objs.size := Rho.put_same
  have rs1 := rs.mono (S.le_put s.heap.objs.size) (Ext.new (K := X.K) (o := .dK []) hn)
  have h0 := Res.post.imp (Res.post.bind (Res.post.mono h (S.le_put s.heap.objs.size) (Ext.new (o := .dK []) hn))) (fun x st1 ρ1 H1 l1 e1 S1' h1 => (⟨l1 _ _ hD, h1⟩ : ρ1 st.nx = some s.heap.objs.size ∧ _)) fun _ _ _ z => z
  refine wpAny_bind (thn (he.run pins _ σ _ _ I1 (tM.beh S1 rs1 h0)) fun m s1 ⟨w, H1, I2, r1, ρ1, st1, x, S2, rs2, rx, hD1, h1⟩ => wpAny_bind (wpAny_standAt (wpAny_pure ?_)))
  split at h1
  · next kvs ek =>
    split at h1
    · next hc =>
      refine wpAny_mono (dstar_first I2 S2 hD1 hc.2 rx r1 ek hc.1 fun h' ws I3 ex S3 => ?_) (fun _ _ z => z) fun _ _ z => z
      have h3 := Res.post.imp (Res.post.bind (Res.post.mono h1 (Le.refl _) ex)) (fun x st1 ρ2 H1 l1 e1 S1' h1 => (⟨l1 _ _ hD1, h1⟩ : ρ2 st.nx = some s.heap.objs.size ∧ _)) fun _ _ _ z => z
      refine wpAny_bind (thn (he2.run pins _ σ _ _ I3 (tM.beh S3 (rs2.mono (Le.refl _) ex) h3)) fun n s3 ⟨w2, H3, I4, r2, ρ3, st3, y, S4, rs4, ry, hD3, h4⟩ => wpAny_bind (wpAny_standAt (wpAny_pure ?_)))
      split at h4
      · next more em =>
        split at h4
        · next hc2 =>
          obtain ⟨hy, hg, hz, hka⟩ := hc2
          obtain ⟨a, ws2, rfl, q, r⟩ := keysD_at S4 ry em
          obtain ⟨n2, lk, rfl, eg, hka2⟩ := keysD_some em
          obtain rfl : n = Value.ref a := r2
          have hra : ρ3 n2 = some a := by cases ry with | ref z => exact z
          have hda : s.heap.objs.size ≠ a := fun z => hy (by rw [S4.inj n2 st.nx a hra (z ▸ hD3)])
          obtain ⟨ws3, q3, r3⟩ := own_dk S4 hD3 hg (kind_of_all hka)
          obtain ⟨z, hS, vs, rel, dd⟩ := dk_rd I4.hok q
          obtain ⟨z0, hS0, vs0, rel0, dd0⟩ := dk_of I4.hok q3
          have hz := sz_ok hz
          have l1 := r.length
          have l2 := r3.length
          have l3 := rel.length
          have l4 := rel0.length
          refine wp_merge hda hS dd0 dd (fun h'' dd' hs => ?_) (by omega)
          have he : ∃ q, h''.get? s.heap.objs.size = some q := let ⟨q, _, _, hq, _⟩ := dd'; ⟨q, hq⟩
          obtain ⟨ex2, S5⟩ := dk_over S4 hD3 q3 (relDk_merge r r3)
          have l5 := length_mergeK ws2 ws3
          exact ⟨.ref _, _, d_write (t' := s3.toks) I4 (by rw [q3]; exact True.intro) hs he (dk_new (by omega) hS0 (rel.merge rel0) dd'), rfl, h4 ρ3 _ (Le.refl _) ex2 S5 _ (.ref hD3)⟩
        · exact h4.elim
      · exact h4.elim
    · exact h1.elim
  · exact h1.elim
theorem me_dstar1 (he : PE X e (tM X.K cl W fe)) (hk : PE X k (tM X.K cl W fk)) (hv : PE X v (tM X.K cl W fv)) : PE X (.Dict [none, some k] [e, v] pos) (tM X.K cl W (mDstar1 fe fk fv)) := by
  refine ⟨fun pins s σ H Q I ⟨ρ, st, σp, S, rs, h⟩ => ?_⟩
  show wpAny _ _ (do standAt pos; dictDisplay [(none, do let x ← eval e X.env; standAt pos; pure x), (some (eval k X.env), do let x ← eval v X.env; standAt pos; pure x)]) _ _ _
  refine wpAny_bind (wpAny_standAt (wp_dstar ?_))
  obtain ⟨hn, I1, S1⟩ := laid_dict I S
  have hD : (ρ.put st.nx s.heap.objs.size) st.nx = some s.heap.objs.size := Rho.put_same
  have rs1 := rs.mono (S.le_put s.heap.objs.size) (Ext.new (K := X.K) (o := .dK []) hn)
  have h0 := Res.post.imp (Res.post.bind (Res.post.mono h (S.le_put s.heap.objs.size) (Ext.new (o := .dK []) hn))) (fun x st1 ρ1 H1 l1 e1 S1' h1 => (⟨l1 _ _ hD, h1⟩ : ρ1 st.nx = some s.heap.objs.size ∧ _)) fun _ _ _ z => z
  refine wpAny_bind (thn (he.run pins _ σ _ _ I1 (tM.beh S1 rs1 h0)) fun m s1 ⟨w, H1, I2, r1, ρ1, st1, x, S2, rs2, rx, hD1, h1⟩ => wpAny_bind (wpAny_standAt (wpAny_pure ?_)))
  split at h1
  · next kvs ek =>
    split at h1
    · next hc =>
      refine wpAny_mono (dstar_first I2 S2 hD1 hc.2 rx r1 ek hc.1 fun h' ws I3 ex S3 => ?_) (fun _ _ z => z) fun _ _ z => z
      obtain ⟨hn2, I4, S4⟩ := laid_dict I3 S3
      have hE : (ρ1.put (st1.set st.nx (.dct kvs false)).nx h'.objs.size) (st1.set st.nx (.dct kvs false)).nx = some h'.objs.size := Rho.put_same
      have hE : (ρ1.put (st1.set st.nx (.dct kvs false)).nx h'.objs.size) st1.nx = some h'.objs.size := by
        rw [Sto.nx_set] at hE ⊢; exact hE
      have leE := S3.le_put h'.objs.size
      have exE : Ext X.K (upd H1 s.heap.objs.size (.dK ws)) _ := Ext.new (o := .dK []) hn2
      have h3 := Res.post.imp (Res.post.bind (Res.post.mono (Res.post.mono h1 (Le.refl _) ex) leE exE)) (fun x st4 ρ2 H2 l1 e1 S1' h1 => (⟨l1 _ _ (leE _ _ hD1), l1 _ _ hE, h1⟩ : ρ2 st.nx = some s.heap.objs.size ∧ ρ2 st1.nx = some h'.objs.size ∧ _)) fun _ _ _ z => z
      refine wpAny_subDict (knd := mixKind X.prog X.w) (show 1 ≤ 15 by decide) (evalPairs_cons ?_)
      refine thn (hk.run pins _ σ _ _ I4 (tM.beh S4 ((rs2.mono (Le.refl _) ex).mono leE exE) h3)) fun ku s4 ⟨w2, H4, I5, r2, ρ4, st4, y, S5, rs5, ry, hD4, hE4, h4⟩ => ?_
      have h5 := Res.post.imp (Res.post.bind h4) (fun x st5 ρ2 H2 l1 e1 S1' h1 => (⟨l1 _ _ hD4, l1 _ _ hE4, ry.mono l1 e1, h1⟩ : ρ2 st.nx = some s.heap.objs.size ∧ ρ2 st1.nx = some h'.objs.size ∧ RelP X.K ρ2 H2 y w2 ∧ _)) fun _ _ _ z => z
      refine wpAny_bind (thn (hv.run pins _ σ _ _ I5 (tM.beh S5 rs5 h5)) fun vu s5 ⟨w3, H5, I6, r3, ρ5, st5, z, S6, rs6, rz, hD5, hE5, ry5, h6⟩ => wpAny_bind (wpAny_standAt (wpAny_pure (evalPairs_nil ?_))))
      split at h6
      · next hc2 =>
        obtain ⟨hky, hgE, hgD, hz, hfit⟩ := hc2
        obtain ⟨kx, ekx⟩ := kindK_f hky
        obtain rfl := keyK_val ekx ry5
        obtain ⟨ws0, q0, r0⟩ := own_dk S6 hE5 hgE (fun p r e => nomatch e)
        cases r0
        obtain ⟨_, hSE, vs0, rel0, dd0⟩ := dk_of I6.hok q0
        cases rel0
        refine ⟨[(kx, vu)], ⟨kV_is r2, rfl, True.intro⟩, dd0, fun h7 dd7 hs7 => ?_⟩
        -- the small dict is filled
        have he7 : ∃ q, h7.get? h'.objs.size = some q := let ⟨q, _, _, hq, _⟩ := dd7; ⟨q, hq⟩
        have relE : KV [(kx, w3)] (merged [] [(kx, vu)]) := .cons ⟨rfl, r3⟩ .nil
        have I7 : Inv X pins σ (upd H5 h'.objs.size (.dK [(kx, w3)])) { s5 with heap := h7, toks := s5.toks + 1 } := d_write I6 (by rw [q0]; exact True.intro) hs7 he7 (dk_new (by show 1 ≤ sizeLine; decide) hSE relE dd7)
        obtain ⟨ex7, S7⟩ := dk_over S6 hE5 q0 (RelDk.cons ekx rz .nil)
        -- and merged
        have hED : st.nx ≠ st1.nx := fun e => Nat.lt_irrefl _ (e ▸ S2.dom _ _ hD1 : st1.nx < st1.nx)
        have hgD7 : (st5.set st1.nx (.dct [(y, z)] false)).get st.nx = some (.dct kvs false) := by rw [Sto.get_set, if_neg hED]; exact hgD
        have hkk : ∀ p r, kvs = p :: r → kindK p.1 = some false := by
          rcases kfit_k hfit with ⟨_, kk⟩ | ⟨kt, _⟩
          · exact kk
          · rw [hky] at kt; cases kt
        obtain ⟨ws3, q3, rr3⟩ := own_dk S7 hD5 hgD7 hkk
        have hneq : s.heap.objs.size ≠ h'.objs.size := fun e => hED (S6.inj _ _ _ hD5 (e ▸ hE5))
        obtain ⟨z3, hS3, vs3, rel3, dd3⟩ := dk_of I7.hok q3
        have hz := sz_ok hz
        have l1 := rr3.length
        have l3 := rel3.length
        have dE : Heap.DictOf (mixKind X.prog X.w) h7 h'.objs.size [(kx, vu)] := dd7
        refine wp_merge (kvs := vs3) (more := [(kx, vu)]) hneq hSE dd3 dE (fun h8 dd8 hs8 => ?_) (by show vs3.length + 1 ≤ sizeLine; omega)
        have he8 : ∃ q, h8.get? s.heap.objs.size = some q := let ⟨q, _, _, hq, _⟩ := dd8; ⟨q, hq⟩
        have l5 := length_putK ws3 kx w3
        obtain ⟨ex8, S8⟩ := dk_over S7 hD5 q3 (relDk_put rr3 ekx (rz.mono (Le.refl _) ex7))
        exact ⟨.ref _, _, d_write (t' := s5.toks + 1) I7 (by rw [q3]; exact True.intro) hs8 he8 (dk_new (by omega) hS3 (rel3.put kx r3) dd8), rfl, h6 ρ5 _ (Le.refl _) (ex7.trans ex8) S8 _ (.ref hD5)⟩
      · exact h6.elim
    · exact h1.elim
  · exact h1.elim
end
end MP
set_option Elab.async false
set_option linter.all false
set_option maxRecDepth 100000
set_option maxHeartbeats 2000000
namespace MP
open PySem PySem.Spec L2
/-- what the class above the own exceptions must be for C0.__init__(self, ..) -/
structure PIni (K : PySem.W.Frag) (C : Addr) : Prop where
  hg : PySem.W.specialIn K (.ref C) "__getattribute__" = some (some (.builtin "type.__getattribute__"))
  hr : PySem.W.readsIn K C (.type "type") = true
  e : PySem.W.findCls K (.ref C) (.type "type") "__init__" = some (.val (.builtin "ValueError.__init__"))
section
variable {X : Cx} {cl : CT} {W : WX} {e : Expr} {es : List Expr} {ta : TA} {p p1 p2 pos pos' : Pos} {x : Str} {C C0 : Addr}
theorem pe_pinit {pl : Sem Bool} (hg : Gl X x) (hm : X.mg x = some (.ref C0)) (P : PIni X.K C0) (ha : PA X (e :: es) ta) (hdb : (x == ("__debug__" : Str)) = false := by decide)
    (hc : eval (.Call (.Attribute (.Name x p1) "__init__" p2) (e :: es) [] pos) X.env = (do
      let ov ← eval (.Name x p1) X.env
      standAt p2.atName
      let (f, first) ← holding [ov] (getMethod ov "__init__" pl)
      callWith pos f first (backTo pos (starEach (e :: es) X.env)) (backToKw pos (keywordEach [] X.env))) := by rfl)
    (he : starEach (e :: es) X.env = (false, eval e X.env) :: starEach es X.env := by rfl) (hpl : (backTo pos (starEach es X.env)).any (·.1) = false := by rfl) :
    PE X (.Call (.Attribute (.Name x p1) "__init__" p2) (e :: es) [] pos) (tVeI X.K ta) := by
  refine ⟨fun pins s σ H Q I h => ?_⟩
  refine PySem.W.methodCall_KW (ld_glob I hg hm ?_ hdb) hc
  refine PySem.W.method_cls I.kIn P.hg (PySem.W.cls_value I.kIn P.hr P.e (by decide +kernel) ?_)
  show wpAny _ _ (callWith pos (Value.builtin "ValueError.__init__") [] (backTo pos (starEach (e :: es) X.env)) []) _ _ _
  refine PyProof.Rows.callWith_method1 (thn (ha.run pos pins _ σ H _ (I.tok _) h) fun us s1 ⟨vs, H1, I1, r1, a, C, ws, ev, hl, T, ea, q⟩ => ?_) he hpl
  subst ev
  cases r1 with
  | @cons _ u0 _ ur ra rw' =>
    obtain rfl : u0 = Value.ref a := ra
    have hlen : ur.length ≤ sizeLine := by
      rw [← Paired.length rw', sizeLine_eq]
      omega
    exact oinit_ok T I1 ea hlen fun s' J => ⟨.non, H1, J, rfl, q⟩
/-- what an own exception's __init__(self, part) does: one attribute is set -/
def spXi (C : Addr) (f : Str) : Sp := fun vs H Q _ => ∃ (a : Addr) (v : V), vs = [.ref a, v] ∧ H a = some (exo a C none) ∧ ∀ dx, H dx = none → dx ≠ a → Q .non (upd (upd H dx (exd dx [(f, v)])) a (exo a C (some dx)))
/-- an own exception class -/
structure ExC (X : Cx) (cl : CT) (c : Nat) (f : Str) : Prop where
  oex : OexC X.K (cl.ad c)
  fn : ∃ (fI : Addr) (k : Nat) (fd : FuncData) (ps : List Str), PySem.W.findIn X.K (.ref (cl.ad c)) "__init__" = some (some (.ref fI)) ∧ PySem.W.typeIn X.K (.ref fI) = some (.type "function") ∧
    FnOk X.prog X.w X.K X.mg X.base CX0 k fI fd ps (spXi (cl.ad c) f) ∧ Room (k + 1) X.A ∧ Binds X.K fd ps []
def sRaise1 (c : Nat) (f : Str) (fe : ME) : MS := fun σ st => (fe σ st).toS σ fun v st1 => .err ⟨c, [(f, v)]⟩ σ st1
theorem pass0' {E : XK} : Passes CX0 X E := fun _ _ _ _ _ _ _ h => h.elim
theorem ms_raise1 {c : Nat} {f : Str} {fe : ME} (hc : X.calm = true) (tk : Takes X W) (T : ExC X cl c f) (hg : Gl X x) (hm : X.mg x = some (.ref (cl.ad c))) (he : PE X e (tM X.K cl W fe)) (hdb : (x == ("__debug__" : Str)) = false := by decide)
    (hs : starEach [e] X.env = (false, eval e X.env) :: starEach [] X.env := by rfl) (hpl : (backTo pos (starEach [] X.env)).any (·.1) = false := by rfl) :
    PS X (.Raise (some (.Call (.Name x p) [e] [] pos)) none pos') (tMS X.K cl W (sRaise1 c f fe)) := by
  obtain ⟨oex, fI, k, fd, ps, h1, h2, F, hr, hb⟩ := T
  refine (ps_raise hc tk (pmk_oex (ds := []) (dvs := []) oex h1 h2 F hr hb .nil pass0' hg hm (pa_cons he pa_nil hs) hdb hs hpl)).imp fun D σ H ⟨ρ, st, σp, S, rs, h⟩ => ?_
  refine ⟨ρ, st, σp, S, rs, Res.post.imp (toS_post rs h) (fun v st1 ρ1 H1 l1 e1 S1 h1 w rw' => ?_) fun _ _ _ z => z⟩
  refine ⟨by show 1 ≤ 1000; decide, fun a ha => ⟨a, w, rfl, upd_same, fun dx hdx hne => ⟨rfl, dx, [(f, w)], upd_same, ?_, ?_, ?_⟩⟩⟩
  · rw [upd_ne hne, upd_same]
  · rw [upd_ne hne] at hdx; exact hdx
  · rw [upd_ne hne] at hdx
    have eH : upd (del (upd (upd (upd H1 a (exo a (cl.ad c) none)) dx (exd dx [(f, w)])) a (exo a (cl.ad c) (some dx))) a) dx (.xd [(f, w)]) = upd H1 dx (.xd [(f, w)]) := by
      funext b
      by_cases e1 : b = dx
      · rw [e1, upd_same, upd_same]
      · rw [upd_ne e1, upd_ne e1]
        by_cases e2 : b = a
        · rw [e2, del_same, ha]
        · rw [del_ne e2, upd_ne e2, upd_ne e1, upd_ne e2]
    rw [eH]
    have ex : Ext X.K H1 (upd H1 dx (.xd [(f, w)])) := Ext.new hdx
    exact h1 ρ1 _ _ _ σ (Le.refl _) ex (S1.plus hdx) ((rs.mono l1 e1).mono (Le.refl _) ex) ⟨rfl, .inr ⟨dx, _, rfl, upd_same, .cons (rw'.mono (Le.refl _) ex) .nil⟩⟩
/-- raise C('text'), C without own __init__ -/
def sRaise0 (c : Nat) : MS := fun σ st => .err ⟨c, []⟩ σ st
theorem ms_raise0 {c : Nat} {m : Str} {j : Nat} {newId initId B : String} {bmB : List Value} (hc : X.calm = true) (tk : Takes X W) (F : ExcBaseFacts B newId initId bmB) (q : PySem.W.excIn X.K (cl.ad c) bmB newId = true) (hm : X.mg x = some (.ref (cl.ad c))) (kC : PySem.W.keepIn X.K (.ref (cl.ad c)) = true) (r : Raises X (.ref (cl.ad c))) (hg : Gl X x)
    (hdb : (x == ("__debug__" : Str)) = false := by decide) : PS X (.Raise (some (.Call (.Name x p) [.Constant (.str m) j p2] [] pos)) none pos') (tMS X.K cl W (sRaise0 c)) :=
  (ps_raise hc tk (pmk_own F q hm kC r hg hdb)).imp fun D σ H ⟨ρ, st, σp, S, rs, h⟩ => h ρ H _ _ σ (Le.refl _) (Ext.refl _) S rs ⟨rfl, .inl ⟨rfl, rfl⟩⟩
end

/-- how a clause's suite ends for its slot -/
def offI (D : Ends) (oi : Option Nat) : Ends := match oi with
  | none => D
  | some i => { nx := fun σ H => D.nx (σ.set i none) H, rt := D.rt, bk := fun σ H => D.bk (σ.set i none) H, ct := fun σ H => D.ct (σ.set i none) H }
def onI (σ : L2.St) (oi : Option Nat) (a : Addr) : L2.St := match oi with
  | none => σ
  | some i => σ.set i (some (.ref a))
abbrev Hd := Value × Option Nat × (Addr → Value → Option Addr → TS)
def wMix (K : PySem.W.Frag) (Wout : WX) (D : Ends) : List Hd → WX
  | [] => Wout
  | (c, oi, ts) :: r => fun cls d σ H => ∃ b, PySem.W.exmOne K cls c = some b ∧ (b = true → ∀ a, H a = none → ts a cls d (offI D oi) (onI σ oi a) H) ∧ (b = false → wMix K Wout D r cls d σ H)
/-- .. where there are as many slots as names -/
def wLen (X : Cx) (Wout : WX) (D : Ends) (l : List Hd) : WX := fun cls d σ H => σ.length = X.N.length → wMix X.K Wout D l cls d σ H
inductive HdsX (X : Cx) : List ExceptHandler → List Hd → Prop
  | nil : HdsX X [] []
  | one {x : Str} {c : Value} {ts : Addr → Value → Option Addr → TS} {b₀ : Stmt} {suite : List Stmt} {np pos' : Pos} {hds : List ExceptHandler} {l : List Hd} (hc : Names X x c)
      (hsu : ∀ (a : Addr) (oe : Obj) (cls : Value) (d : Option Addr) (pn : List (Addr × Obj)), Zc cls d oe → (∃ vs, oe.data = .fields vs) → PSs (X.suite a ((a, oe) :: pn)) (b₀ :: suite) (ts a cls d)) (r : HdsX X hds l) :
      HdsX X (.ExceptHandler (some (.Name x np)) none (b₀ :: suite) pos' :: hds) ((c, none, ts) :: l)
  | as {x n : Str} {i : Nat} {c : Value} {ts : Addr → Value → Option Addr → TS} {b₀ : Stmt} {suite : List Stmt} {np pos' : Pos} {hds : List ExceptHandler} {l : List Hd} (hN : X.N.Nodup) (hi : X.N[i]? = some n) (hln : X.env.kindOf n = some .local) (hc : Names X x c)
      (hsu : ∀ (a : Addr) (oe : Obj) (cls : Value) (d : Option Addr) (pn : List (Addr × Obj)), Zc cls d oe → (∃ vs, oe.data = .fields vs) → PSs (X.suite a ((a, oe) :: pn)) (b₀ :: suite) (ts a cls d)) (r : HdsX X hds l) :
      HdsX X (.ExceptHandler (some (.Name x np)) (some n) (b₀ :: suite) pos' :: hds) ((c, some i, ts) :: l)
section
variable {X : Cx} {body : List Stmt} {h₀ : ExceptHandler} {hds : List ExceptHandler} {l : List Hd} {pos : Pos} {tb : WX → TS} {Wout : WX}
theorem ps_try_mix (hs : X.stack = X.env :: X.outer) (hf : X.env.frame = some X.env.locals) (tk : Takes X Wout)
    (hb : ∀ (W : WX) (pn : List (Addr × Obj)) (xe : Value → Shared → Prop), Takes (X.tr pn xe) W → PassesOwn (model X.prog X.w) X.A X.env xe → PSs (X.tr pn xe) body (tb W))
    (hh : HdsX X (h₀ :: hds) l) : PS X (.Try body (h₀ :: hds) [] [] pos) (fun D σ H => tb (wLen X Wout D l) D σ H) := by
  refine ⟨fun pins s σ H D I h => ?_⟩
  have ok := I.ok
  have hfr : X.A.frames = some (X.env :: X.outer) := by rw [ok.frames, hs]
  -- what is done with an exception of the body
  have catch_ : ∀ (u : Value) (s' : Shared), XE (X.tr (X.pn ++ pins) (fun e s₁ => wpAny (model X.prog X.w) X.A (noteFrame e X.env) (fun _ s₂ => wpAny (model X.prog X.w) X.A (setFlight e none) (fun _ s₃ =>
      wpAny (model X.prog X.w) X.A (handleBy e X.env (h₀ :: hds)) (SP X pins D) X.xe s₃) X.xe s₂) X.xe s₁)) (wLen X Wout D l) u s' → wpAny (model X.prog X.w) X.A (noteFrame u X.env) (fun _ s₂ => wpAny (model X.prog X.w) X.A (setFlight u none) (fun _ s₃ =>
      wpAny (model X.prog X.w) X.A (handleBy u X.env (h₀ :: hds)) (SP X pins D) X.xe s₃) X.xe s₂) X.xe s' := fun u s' xx => by
    obtain ⟨a, B, sI, pins', σ', H', cls, d, rfl, J', nb, up, sky, na, os, ag, w⟩ := xx
    have J : Inv X pins σ' H' sI := J'.ofTry ok
    have w := w J.len
    have sky' : Sky B (X.env :: X.outer) a (Zc cls d) X.env.locals s'.heap := by rw [← hs]; exact sky
    refine Sky.land Zc.steady hfr hf sky' fun h3 fl3 up3 => ?_
    have J3 : Inv X pins σ' H' { s' with heap := h3 } := J.landed nb fl3.1 (up.trans up3) os ag
    obtain ⟨oe3, vs3, he3, hz3, hd3⟩ := fl3.there
    have nfr : a ∉ frs (X.env :: X.outer) := fun hm => by
      obtain ⟨_, o', e', hnf⟩ := fl3.2.2.1.mem hm
      rw [he3] at e'; cases e'
      exact hnf _ hd3
    have nL : a ≠ X.env.locals := fun z => nfr (List.mem_filterMap.mpr ⟨X.env, List.mem_cons_self, by rw [hf, z]⟩)
    have nF : a ∉ X.fs := fun hm => by
      obtain ⟨e, he, q⟩ := List.mem_filterMap.mp hm
      exact nfr (List.mem_filterMap.mpr ⟨e, List.mem_cons_of_mem _ he, q⟩)
    have S3 := J3.suite he3 hd3 na nL nF
    have LT : PySem.W.Looks (model X.prog X.w) h3 (typeOf (.ref a)) cls := fun A Q E s k q => wpAny_typeOf_ref (k _ _ he3) (by rw [hz3.1]; exact q)
    have name : ∀ {x : Str} {c : Value} {np : Pos} {Q : Value → Shared → Prop} {E : Value → Shared → Prop}, Names X x c → Q c { s' with heap := h3 } → wpAny (model X.prog X.w) (X.A.mark (some (.ref a))) (eval (.Name x np) X.env) Q E { s' with heap := h3 } := fun {x c np Q E} hc q => by
      obtain ⟨hg, hdbg, hm | ⟨hm, hv, hnn⟩⟩ := hc
      · exact ld_glob (X := X.suite a ((a, oe3) :: (X.pn ++ pins))) S3 hg hm q hdbg
      · exact ld_blt (X := X.suite a ((a, oe3) :: (X.pn ++ pins))) S3 hg hm hv q hnn hdbg
    have go : ∀ {hds' : List ExceptHandler} {l' : List Hd}, HdsX X hds' l' → wMix X.K Wout D l' cls d σ' H' →
        wpAny (model X.prog X.w) X.A (handleBy (.ref a) X.env hds') (SP X pins D) X.xe { s' with heap := h3 } := by
      intro hds' l' hk
      induction hk with
      | nil =>
        intro w
        refine wpAny_handleBy_nil ?_
        obtain ⟨k1, k2, k3, oe, vs, T, oT, ts', he, hz, hd, h1, hr⟩ := id fl3
        unfold PySem.passOn
        refine wpAny_bind (wpAny_field he hd h1 ?_)
        rw [if_neg (show ¬ ((Value.ref T == Value.none) = true) from by simp)]
        have fin : wpAny (model X.prog X.w) X.A (setFlight (.ref a) X.env.frame) (fun _ s4 => wpAny (model X.prog X.w) X.A (throw (.ref a) : Sem Flow) (SP X pins D) X.xe s4) X.xe { s' with heap := h3 } := by
          rw [hf]
          refine HandSPX.setFlight_upZ fl3 fun h4 hh4 up4 => wpAny_throw (tk _ _ ?_)
          exact ⟨a, B, sI, pins, σ', H', cls, d, rfl, J, nb, (up.trans up3).trans up4, .inr (.inr (by rw [hs]; exact hh4)), na, os, ag, w⟩
        first
          | exact wpAny_bind (wpAny_pure (wpAny_bind fin))
          | exact wpAny_bind fin
      | one hc hsu r ih =>
        intro w
        obtain ⟨b, hb1, hyes, hno⟩ := w
        refine wpAny_handleBy_cons (codeAny_handlers_test (name hc ((PySem.W.exm_one (M := model X.prog X.w) (J3.kIn) LT hb1).here ?_))) (by intro q; cases q)
        cases b with
        | true =>
          refine codeAny_handlers_suite ?_
          refine HandSPX.lands_againZ fl3 fun h4 fl4 up4 => ?_
          have J4 : Inv X pins σ' H' { s' with heap := h4 } := J.landed nb fl4.1 ((up.trans up3).trans up4) os ag
          obtain ⟨oe4, vs4, he4, hz4, hd4⟩ := fl4.there
          have S4 := J4.suite he4 hd4 na nL nF
          refine wpAny_mono ((hsu a oe4 cls d (X.pn ++ pins) hz4 ⟨_, hd4⟩).run [] _ _ H' _ S4 (hyes rfl a na)) (fun f s6 hsp => ?_) (fun _ _ z => False.elim z)
          cases f with
          | ret u =>
            obtain ⟨v6, σ6, H6, S6, r6, q6⟩ := hsp
            exact ⟨_, _, _, S6.unsuite ok, r6, q6⟩
          | next => obtain ⟨σ6, H6, S6, q6⟩ := hsp; exact ⟨_, _, S6.unsuite ok, q6⟩
          | brk => obtain ⟨σ6, H6, S6, q6⟩ := hsp; exact ⟨_, _, S6.unsuite ok, q6⟩
          | cont => obtain ⟨σ6, H6, S6, q6⟩ := hsp; exact ⟨_, _, S6.unsuite ok, q6⟩
        | false => exact ih (hno rfl)
      | @as x n i c ts b₀ suite np pos' hds2 l2 hN hi hln hc hsu r ih =>
        intro w
        obtain ⟨b, hb1, hyes, hno⟩ := w
        refine wpAny_handleBy_cons (codeAny_handlers_test (name hc ((PySem.W.exm_one (M := model X.prog X.w) (J3.kIn) LT hb1).here ?_))) (by intro q; cases q)
        cases b with
        | true =>
          refine codeAny_handlers_suite_as ?_
          refine HandSPX.lands_againZ fl3 fun h4 fl4 up4 => ?_
          have J4 : Inv X pins σ' H' { s' with heap := h4 } := J.landed nb fl4.1 ((up.trans up3).trans up4) os ag
          obtain ⟨oe4, vs4, he4, hz4, hd4⟩ := fl4.there
          have S4 := J4.suite he4 hd4 na nL nF
          refine store_ok (X := X.suite a ((a, oe4) :: (X.pn ++ pins))) (v := .ref a) S4 hN hi (.inl hln) rfl (fun s5 S5 => ?_) (.inr hln)
          refine wpAny_mono ((hsu a oe4 cls d (X.pn ++ pins) hz4 ⟨_, hd4⟩).run [] s5 _ H' _ S5 (hyes rfl a na)) (fun f s6 hsp => ?_) (fun _ _ z => False.elim z)
          have end_ : ∀ {σ6 : L2.St} {H6 : Hp} {Q : Shared → Prop}, Inv (X.suite a ((a, oe4) :: (X.pn ++ pins))) [] σ6 H6 s6 → (∀ s7, Inv X pins (σ6.set i none) H6 s7 → Q s7) →
              wpAny (model X.prog X.w) X.A (do bindName X.env n .none; unbindBehindTheSuite X.env n pos') (fun _ s7 => Q s7) X.xe s6 := fun {σ6 H6 Q} S6 hq => gone_ok (S6.unsuite ok) hN hi hln hq
          cases f with
          | ret u =>
            obtain ⟨v6, σ6, H6, S6, r6, q6⟩ := hsp
            exact end_ S6 fun s7 J7 => ⟨_, _, _, J7, r6, q6⟩
          | next => obtain ⟨σ6, H6, S6, q6⟩ := hsp; exact end_ S6 fun s7 J7 => ⟨_, _, J7, q6⟩
          | brk => obtain ⟨σ6, H6, S6, q6⟩ := hsp; exact end_ S6 fun s7 J7 => ⟨_, _, J7, q6⟩
          | cont => obtain ⟨σ6, H6, S6, q6⟩ := hsp; exact end_ S6 fun s7 J7 => ⟨_, _, J7, q6⟩
        | false => exact ih (hno rfl)
    exact go hh w
  refine wpAny_Try_except ?_
  refine wpAny_mono ((hb (wLen X Wout D l) (X.pn ++ pins) _ (fun u s' xx => catch_ u s' xx) PassesOwn.looking).run [] s σ H D (I.toTry _) h) (fun f s1 hsp => ?_) (fun e s1 he => he)
  cases f with
  | next => obtain ⟨σ', H', J', q⟩ := hsp; exact wpAny_execs_nil ⟨σ', H', J'.ofTry ok, q⟩
  | brk => obtain ⟨σ', H', J', q⟩ := hsp; exact ⟨σ', H', J'.ofTry ok, q⟩
  | cont => obtain ⟨σ', H', J', q⟩ := hsp; exact ⟨σ', H', J'.ofTry ok, q⟩
  | ret u => obtain ⟨v, σ', H', J', r, q⟩ := hsp; exact ⟨v, σ', H', J'.ofTry ok, r, q⟩
end
end MP
set_option Elab.async false
set_option linter.all false
set_option maxRecDepth 100000
set_option maxHeartbeats 2000000
namespace MP
open PySem PySem.Spec L2
abbrev HdP := Nat × Option Nat × (Exn → MS)
def ResS.off (r : ResS) (oi : Option Nat) : ResS := match oi with
  | none => r
  | some i => match r with
    | .nx σ s => .nx (σ.set i none) s
    | .bk σ s => .bk (σ.set i none) s
    | .ct σ s => .ct (σ.set i none) s
    | r => r
def onP (σ : Sl) (oi : Option Nat) : Sl := match oi with
  | none => σ
  | some i => σ.set i none
def noErr (r : ResS) : ResS := match r with
  | .err _ _ _ => .stuck
  | r => r
def tryH (sub : Nat → Nat → Option Bool) : List HdP → Exn → MS
  | [], x, σ, st => .err x σ st
  | (c, oi, f) :: r, x, σ, st => match sub x.c c with
    | some true => (noErr (f x (onP σ oi) st)).off oi
    | some false => tryH sub r x σ st
    | none => .stuck
def sTry (sub : Nat → Nat → Option Bool) (b : MS) (hs : List HdP) : MS := fun σ st => match b σ st with
  | .err x σ1 s1 => tryH sub hs x σ1 s1
  | r => r
/-- a suite's reading: the exception is x, its object a, its class cls, its dict d -/
def tX (K : PySem.W.Frag) (cl : CT) (oi : Option Nat) (f : Exn → MS) : Addr → Value → Option Addr → TS := fun a cls d D σ H => ∃ ρ st σp x, Sim K cl ρ st H ∧ RelS K ρ H σp σ ∧ ExnRel K cl ρ H x cls d ∧ (∀ i, oi = some i → i < σ.length → σ[i]? = some (some (.ref a))) ∧ (noErr (f x σp st)).post K cl ρ H D W0
def hdsV (K : PySem.W.Frag) (cl : CT) (hs : List HdP) : List Hd := hs.map fun h => (.ref (cl.ad h.1), h.2.1, tX K cl h.2.1 h.2.2)
section
variable {X : Cx} {cl : CT} {W Wout : WX} {body : List Stmt} {h₀ : ExceptHandler} {hds : List ExceptHandler} {pos : Pos} {b : MS} {hs : List HdP} {sub : Nat → Nat → Option Bool}
theorem noErr_post {K : PySem.W.Frag} {ρ : Rho} {H : Hp} {r : ResS} {D : Ends} {W W' : WX} (h : (noErr r).post K cl ρ H D W) : (noErr r).post K cl ρ H D W' := by
  cases r <;> exact h
theorem off_post {K : PySem.W.Frag} {ρ : Rho} {H : Hp} {r : ResS} {D : Ends} {oi : Option Nat} (h : (r.off oi).post K cl ρ H D W) : r.post K cl ρ H (offI D oi) W := by
  cases oi with
  | none => exact h
  | some i =>
    cases r with
    | nx σ s => exact fun ρ' H' σ' l e S rs => h ρ' H' _ l e S (rs.drop i none)
    | bk σ s => exact fun ρ' H' σ' l e S rs => h ρ' H' _ l e S (rs.drop i none)
    | ct σ s => exact fun ρ' H' σ' l e S rs => h ρ' H' _ l e S (rs.drop i none)
    | rt v s => exact h
    | err x σ s => exact h
    | stuck => exact h
theorem tryH_go (hsub : ∀ c j b, sub c j = some b → PySem.W.exmOne X.K (.ref (cl.ad c)) (.ref (cl.ad j)) = some b) {D : Ends} {x : Exn} {σp : Sl} {σ : L2.St} {ρ : Rho} {st : Sto} {H : Hp} {C : Value} {d : Option Addr} (S : Sim X.K cl ρ st H) (rs : RelS X.K ρ H σp σ) (rx : ExnRel X.K cl ρ H x C d) :
    ∀ hs : List HdP, (tryH sub hs x σp st).post X.K cl ρ H D Wout → wMix X.K Wout D (hdsV X.K cl hs) C d σ H
  | [], h => h ρ H C d σ (Le.refl _) (Ext.refl _) S rs rx
  | (c, oi, f) :: r, h => by
    unfold tryH at h
    obtain ⟨rfl, rd⟩ := rx
    split at h
    · next es =>
      refine ⟨true, hsub _ _ _ es, fun _ a ha => ⟨ρ, st, onP σp oi, x, S, ?_, ⟨rfl, rd⟩, fun i hi hl => ?_, ?_⟩, fun z => nomatch z⟩
      · cases oi with
        | none => exact rs
        | some i => exact rs.drop i _
      · cases hi
        exact List.getElem?_set_self (by simpa [onI] using hl)
      · exact noErr_post (off_post h)
    · next es => exact ⟨false, hsub _ _ _ es, (fun z => nomatch z), fun _ => tryH_go hsub S rs ⟨rfl, rd⟩ r h⟩
    · exact h.elim
theorem ms_try (hs0 : X.stack = X.env :: X.outer) (hf : X.env.frame = some X.env.locals) (tk : Takes X Wout) (hsub : ∀ c j b, sub c j = some b → PySem.W.exmOne X.K (.ref (cl.ad c)) (.ref (cl.ad j)) = some b)
    (hb : ∀ (W : WX) (pn : List (Addr × Obj)) (xe : Value → Shared → Prop), Takes (X.tr pn xe) W → PassesOwn (model X.prog X.w) X.A X.env xe → PSs (X.tr pn xe) body (tMS X.K cl W b))
    (hh : HdsX X (h₀ :: hds) (hdsV X.K cl hs)) : PS X (.Try body (h₀ :: hds) [] [] pos) (tMS X.K cl Wout (sTry sub b hs)) :=
  (ps_try_mix hs0 hf tk hb hh).imp fun D σ H ⟨ρ, st, σp, S, rs, h⟩ => by
    refine ⟨ρ, st, σp, S, rs, ?_⟩
    unfold sTry at h
    cases q : b σp st with
    | err x σ1 s1 =>
      rw [q] at h
      exact fun ρ' H' C d σ' l e S' rs' rx _ => tryH_go hsub S' rs' rx hs (ResS.post.mono h l e)
    | nx σ s => rw [q] at h; exact h
    | bk σ s => rw [q] at h; exact h
    | ct σ s => rw [q] at h; exact h
    | rt v s => rw [q] at h; exact h
    | stuck => rw [q] at h; exact h
/-- a suite that leaves the exception alone -/
theorem tx_plain {oi : Option Nat} {f : MS} {suite : List Stmt} {a : Addr} {cls : Value} {d : Option Addr} {Y : Cx} (h : PSs Y suite (tMS Y.K cl W0 f)) : PSs Y suite (tX Y.K cl oi (fun _ => f) a cls d) :=
  h.imp fun D σ H ⟨ρ, st, σp, x, S, rs, _, _, h⟩ => ⟨ρ, st, σp, S, rs, by
    have h : (noErr (f σp st)).post Y.K cl ρ H D W0 := h
    cases q : f σp st with
    | err x σ1 s1 => rw [q] at h; exact h.elim
    | nx σ s => rw [q] at h; exact h
    | bk σ s => rw [q] at h; exact h
    | ct σ s => rw [q] at h; exact h
    | rt v s => rw [q] at h; exact h
    | stuck => rw [q] at h; exact h⟩
/-- return ('word', e.f) -/
def sxPair (i : Nat) (w : Str) (c : Nat) (f : Str) : Exn → MS := fun x σ st => if x.c = c ∧ i < σ.length then (match x.fs.lookup f with
  | some v => .rt (.tup [.str w, v]) st
  | none => .stuck) else .stuck
theorem tx_pair {i c : Nat} {n f w : Str} {j k} {p1 p2 p3 p4 p5 : Pos} {a : Addr} {oe : Obj} {cls : Value} {d : Option Addr} {pn : List (Addr × Obj)} (T : XfC X.K (cl.ad c)) (hno : PySem.W.findIn X.K (.ref (cl.ad c)) f = some none) (hz : Zc cls d oe) (hf : ∃ vs, oe.data = .fields vs)
    (hN : X.N[i]? = some n) (hv : Vis X.env.scope n) (hd : (n == ("__debug__" : Str)) = false := by decide) (hcd : (n == ("__classdict__" : Str)) = false := by decide)
    (hb : attributeBase (.Name n p2) f X.env (eval (.Name n p2) X.env) = eval (.Name n p2) X.env := by rfl) :
    PSs (X.suite a ((a, oe) :: pn)) [.Return (some (.Tuple [.Constant (.str w) j p1, .Attribute (.Name n p2) f p3] k p4)) p5] (tX X.K cl (some i) (sxPair i w c f) a cls d) := by
  refine (pss_one (ps_ret (pe_tup (pa_cons pe_str (pa_cons (pe_xf T hno hz hf (pe_var (X := X.suite a ((a, oe) :: pn)) (i := i) hN hv hd hcd) hb) pa_nil))))).imp fun D σ H ⟨ρ, st, σp, x, S, rs, rx, hsl, h⟩ => ?_
  have h : (noErr (sxPair i w c f x σp st)).post X.K cl ρ H D W0 := h
  unfold sxPair at h
  split at h
  · next hc =>
    split at h
    · next v ev =>
      obtain ⟨hcc, hil⟩ := hc
      obtain ⟨ec, rd⟩ := rx
      rcases rd with ⟨e0, _⟩ | ⟨dd, vs, e1, e2, rf⟩
      · rw [e0] at ev; cases ev
      · obtain ⟨u, hu, ru⟩ := rf.look ev
        refine ⟨.ref a, hsl i rfl (by rw [← rs.1]; exact hil), rfl, by rw [ec, hcc], dd, vs, u, e1, e2, hu, by show 2 ≤ sizeLine; decide, fun p hp => ?_⟩
        have ex : Ext X.K H (upd H p (.tup [.str w, u])) := Ext.new hp
        exact h ρ _ _ (Le.refl _) ex (S.plus hp) (.tup upd_same (.cons (.str w) (.cons (ru.mono (Le.refl _) ex) .nil)))
    · exact h.elim
  · exact h.elim
end

/-- the def that gets the lambda: try: return ask() except .. -/
def mLam (sub : Nat → Nat → Option Bool) (hs : List HdP) (n : Nat) (f : ME) : ME := fun σ st => match f σ st with
  | .ok v s => .ok v s
  | .err x s => (match tryH sub hs x (List.replicate n none) s with
    | .rt v s' => .ok v s'
    | .err x' _ s' => .stuck
    | _ => .stuck)
  | .stuck => .stuck
section
variable {X : Cx} {cl : CT} {W : WX}
theorem ext_n {K : PySem.W.Frag} {H H1 : Hp} (e : LamX.ExtN H H1) : Ext K H H1 := ⟨⟨(fun a vs q => e a _ q fun ps z => nomatch z), fun a vs q => by
  rcases q with ⟨o, q⟩ | q
  · exact .inl ⟨o, e a _ q fun ps z => nomatch z⟩
  · exact .inr q⟩, (fun a o u q => e a _ q fun ps z => nomatch z)⟩
theorem sim_n {ρ : Rho} {st : Sto} {H H1 : Hp} (S : Sim X.K cl ρ st H) (e : LamX.ExtN H H1) (t : LamX.Tabs cl.tabs H1) : Sim X.K cl ρ st H1 :=
  S.keep (ext_n (K := X.K) e).w (fun n a hr => by
    obtain ⟨u, q, ns⟩ : ∃ u, H a = some u ∧ NotSeq u := by
      have h := S.dom n a hr
      have : ∃ o, st.get n = some o := by
        unfold Sto.get
        exact ⟨st.objs[n]'h, Array.getElem?_eq_getElem h⟩
      obtain ⟨o, eo⟩ := this
      exact obj_soft S hr
    rw [q]
    exact e a u q fun ps z => by subst z; exact ns) t
/-- what the def makes of the lambda's reading -/
def TTp (K : PySem.W.Frag) (cl : CT) (sub : Nat → Nat → Option Bool) (hs : List HdP) (n : Nat) : (XK → Hp → VK → Prop) → Hp → VK → Prop := fun tl H Q =>
  tl (fun C d H' => ∃ ρ st x v s', Sim K cl ρ st H' ∧ ExnRel K cl ρ H' x C d ∧ tryH sub hs x (List.replicate n none) st = .rt v s' ∧ (Res.ok v s').post K cl ρ H' (Val K Q) NoE) H Q
/-- def x(a): try: return a() except .. -/
theorem said_gives {Ng : List Str} {x a q : Str} {sg : Scope} {g : Addr} {cdg : Value} {sub : Nat → Nat → Option Bool} {h₀ : ExceptHandler} {hds : List ExceptHandler} {hs : List HdP} {p1 p2 p3 p8 : Pos} (hsub : ∀ c j b, sub c j = some b → PySem.W.exmOne X.K (.ref (cl.ad c)) (.ref (cl.ad j)) = some b)
    (hh : ∀ (s : Shared) (H : Hp), HdsX (cxOf C8.CX0 X.prog X.w X.K X.mg X.base Ng x sg g cdg X.A X.stack s H C8.E0).nox (h₀ :: hds) (hdsV X.K cl hs)) (h0 : ∀ f : Addr, (L2.start Ng [V.ref f])[0]? = some (some (V.ref f))) :
    LamX.GivesTo X Ng x sg g cdg [.Try [.Return (some (.Call (.Name a p1) [] [] p2)) p3] (h₀ :: hds) [] [] p8] a q (TTp X.K cl sub hs Ng.length) := by
  intro f c' s H Q tl act hc h
  refine ⟨_, pss_one (ps_try_mix (X := (cxOf C8.CX0 X.prog X.w X.K X.mg X.base Ng x sg g cdg X.A X.stack s H C8.E0).nox)
      (tb := fun W D σ H => ∃ Ech : XK, (∀ cls d σ' H', Ech cls d H' → W cls d σ' H') ∧ σ[0]? = some (some (.ref f)) ∧ H c' = some (LamX.CodeO c' q) ∧ tl Ech H D.rt)
      rfl rfl LamX.takes0 (fun W pn xe tk _ => ?_) (hh s H)), ?_⟩
  · refine ⟨fun pins s' σ H' D I h' => ?_⟩
    obtain ⟨Ech, hW, h1, h2, h3⟩ := h'
    have hp := act W pn xe Ech p1 p2 tk hW
    have hq := pss_one (ps_ret (pos := p3) hp)
    exact hq.run pins s' σ H' D I ⟨h1, h2, h3⟩
  · refine ⟨_, fun cls d σ' H' hw => ?_, h0 f, hc, h⟩
    obtain ⟨ρ, st, x, v, s', S, rx, e, k⟩ := hw
    intro hlen
    have hlen : σ'.length = Ng.length := hlen
    have rs : RelS X.K ρ H' (List.replicate Ng.length none) σ' := by
      refine ⟨by rw [List.length_replicate, hlen], fun i y q => ?_⟩
      have := List.mem_of_getElem? q
      rw [List.mem_replicate] at this
      exact nomatch this.2
    refine tryH_go (Wout := fun _ _ _ _ => False) hsub S rs rx hs ?_
    rw [e]
    exact fun ρ' H2 w l ex S2 rw' => k ρ' H2 l ex S2 w rw'
theorem me_lam {x a : Str} {g c P : Addr} {k : Nat} {pg : Arguments} {h₀ : ExceptHandler} {hds : List ExceptHandler} {hs : List HdP} {sub : Nat → Nat → Option Bool} {p1 p2 p3 p8 : Pos} {sg : Scope} {dV kV doc pm cdv ct oc : Value} {an od : Option Addr} {osl : Array (Option Value)} {Ng : List Str}
    {params : Arguments} {body : Expr} {scope : Scope} {fb : ME} {p lpos pos : Pos} (hg : Gl X x) (hm : X.mg x = some (.ref g)) (hk : PySem.W.keepIn X.K (.ref g) = true)
    (lk : X.K.lookup g = some ⟨oc, od, .func (PySem.W.fnOf x x pg [.Try [.Return (some (.Call (.Name a p1) [] [] p2)) p3] (h₀ :: hds) [] [] p8] sg dV kV doc pm an cdv ct), osl⟩) (hcg : PySem.W.codeIn X.K cdv x = true)
    (hb : L2.Binds X.K (PySem.W.fnOf x x pg [.Try [.Return (some (.Call (.Name a p1) [] [] p2)) p3] (h₀ :: hds) [] [] p8] sg dV kV doc pm an cdv ct) [a] []) (Sg : FnScope Ng [a] sg) (hNg : Ng[0]? = some a) (hva : Vis sg a)
    (hsub : ∀ c j b, sub c j = some b → PySem.W.exmOne X.K (.ref (cl.ad c)) (.ref (cl.ad j)) = some b)
    (hh : ∀ (s : Shared) (H : Hp), HdsX (cxOf C8.CX0 X.prog X.w X.K X.mg X.base Ng x sg g cdv X.A X.stack s H C8.E0).nox (h₀ :: hds) (hdsV X.K cl hs)) (h0 : ∀ f : Addr, (L2.start Ng [V.ref f])[0]? = some (some (V.ref f)))
    (TB : LamX.TabB X.base X.mg c P) (hcode : X.env.code = .ref c) (hmT : (P, X.env.qual ++ "<lambda>") ∈ cl.tabs) (hu : ∀ p ∈ cl.tabs, p.1 = P → p.2 = X.env.qual ++ "<lambda>") (hr : Room (k + 2) X.A) (L : LamX.LamS X.env.scope scope) (hdef : defaultsOf params X.env = ([], []))
    (hbind : ∀ (q : Str) (cc : List (Str × Addr)) (pm cv ctv : Value), bindArgs (PySem.W.kla_fn "<lambda>" q params body scope cc pm cv ctv) ⟨[], []⟩ = pure [])
    (hbody : ∀ (A : Around) (outer : List Env) (s : Shared) (H : Hp) (E : XK) (f c' : Addr), Room k (A.deeper (LamX.lamEnv X scope s.heap.objs.size f c')) → PE (LamX.lamCx X A outer s H E scope f c') body (tM X.K cl (fun cls d _ H => E cls d H) fb))
    (hdb : (x == ("__debug__" : Str)) = false := by decide) (hd : (a == ("__debug__" : Str)) = false := by decide) (hcd : (a == ("__classdict__" : Str)) = false := by decide) :
    PE X (.Call (.Name x p) [.Lambda params body scope lpos] [] pos) (tM X.K cl W (mLam sub hs Ng.length fb)) :=
  (LamX.pe_lamcall (T := cl.tabs) (t := fun E => tM X.K cl (fun cls d _ H => E cls d H) fb) hg hm hk lk hcg hb Sg hNg hva (said_gives hsub hh h0) TB hcode hmT hu hr L hdef hbind hbody hdb hd hcd).imp fun σ H Q ⟨ρ, st, σp, S, rs, h⟩ => by
    refine ⟨S.tab, fun H1 en t1 => ?_⟩
    have ex := ext_n (K := X.K) en
    refine ⟨ρ, st, σp, sim_n S en t1, rs.mono (Le.refl _) ex, ?_⟩
    have h := Res.post.mono h (Le.refl _) ex
    unfold mLam at h
    cases q : fb σp st with
    | ok v s => rw [q] at h; exact h
    | stuck => rw [q] at h; exact h.elim
    | err z s =>
      rw [q] at h
      dsimp only at h
      intro ρ' H' C d l e S' rx
      split at h
      · next v s' et => exact ⟨ρ', s, z, v, s', S', rx, et, fun ρ2 H2 l2 e2 S2 w rw' => h ρ2 H2 (l.trans l2) (e.trans e2) S2 w rw'⟩
      · exact h.elim
      · exact h.elim
end

def delP (o i : PV) (st : Sto) : Option Sto := match o with
  | .ref n => match st.get n with
    | some (.lst xs) => match i with
      | .int k => if sz xs.length = true then (ixN xs.length k).map fun j => st.set n (.lst (xs.eraseIdx j)) else none
      | _ => none
    | some (.dct kvs false) => if kfit kvs false i = true ∧ (dgetP kvs i).isSome = true then some (st.set n (.dct (ddelP kvs i) false)) else none
    | _ => none
  | _ => none
def sDel (fo fi : ME) : MS := fun σ st => (fo σ st).toS σ fun o st1 => (fi σ st1).toS σ fun i st2 => match delP o i st2 with
  | some st3 => .nx σ st3
  | none => .stuck
section
variable {X : Cx} {cl : CT} {W : WX} {o i : Expr} {fo fi : ME} {pos tpos : Pos}
theorem or_some {K : PySem.W.Frag} {ρ : Rho} {H : Hp} {a : Option PV} {b : Option V} (h : OR K ρ H a b) (s : a.isSome = true) : ∃ v, b = some v := by
  cases a with
  | none => cases s
  | some x => cases b with
    | none => exact h.elim
    | some v => exact ⟨v, rfl⟩
theorem ddel_len (kvs : List (PV × PV)) (y : PV) : (ddelP kvs y).length ≤ kvs.length := List.length_filter_le _ _
theorem del_run {pins : List (Addr × Obj)} {σ : L2.St} {H : Hp} {s : Shared} {ρ : Rho} {st st' : Sto} {p q : PV} {v w : V} {ov iv : Value} {Q : Unit → Shared → Prop} (hu : X.A.units + 1 < cLine) (I : Inv X pins σ H s) (S : Sim X.K cl ρ st H) (rp : RelP X.K ρ H p v) (rq : RelP X.K ρ H q w) (ro : RelV v ov) (ri : RelV w iv) (e : delP p q st = some st')
    (k : ∀ s' H', Inv X pins σ H' s' → Ext X.K H H' → Sim X.K cl ρ st' H' → Q () s') : wpAny (model X.prog X.w) X.A (delItem ov iv) Q X.xe s := by
  unfold delP at e
  split at e
  · split at e
    · next xs eg =>
      split at e
      · split at e
        · next hz =>
          obtain ⟨j, ej, rfl⟩ := Option.map_eq_some_iff.mp e
          cases rq
          cases rp with
          | @ref _ a hr =>
            obtain rfl : ov = Value.ref a := ro
            obtain ⟨t, rfl⟩ := ri
            obtain ⟨vs, hq, rs⟩ := S.at_ hr eg
            obtain ⟨ex, S2⟩ := lst_write S hr hq (rs.erase j)
            obtain ⟨h1, h2, h3, h4⟩ := ixN_seq ej
            have hz := of_decide_eq_true hz
            exact del_list I hq (by omega) (by omega) (by rw [← rs.length]; exact h1) fun s' I' => k s' _ I' ex S2
        · cases e
      · cases e
    · next kvs eg =>
      split at e
      · next hk =>
        cases e
        cases rp with
        | @ref _ a hr =>
          obtain rfl : ov = Value.ref a := ro
          obtain ⟨u, rd, hq⟩ := S.at_ hr eg
          rw [if_neg Bool.false_ne_true] at hq
          rcases kfit_k hk.1 with ⟨ky, kk⟩ | ⟨ky, k0, kk⟩
          · obtain ⟨ws, rfl, r⟩ := fit_k rd kk
            obtain ⟨kx, ek⟩ := kindK_f ky
            obtain rfl := keyK_val ek rq
            obtain ⟨z, hz⟩ := or_some (relDk_val r ek) hk.2
            obtain ⟨ex, S2⟩ := dk_over S hr hq (relDk_del r ek)
            exact d_delItem I hq ri (by rw [hz]; rfl) fun s' I' => k s' _ I' ex S2
          · obtain ⟨zs, ks, rfl, ek⟩ := kindK_t ky
            cases rq with
            | @tup _ b vs hb rr =>
              have evs := keysK_vals ek rr
              subst evs
              obtain rfl : iv = Value.ref b := ri
              have ne : kvs ≠ [] := fun z => by rw [z] at hk; exact nomatch hk.2
              obtain ⟨ws, rfl, r⟩ := fit_t rd ne kk
              have ekT : keyT (.tup zs) = some ks := ek
              obtain ⟨z, hz⟩ := or_some (relDt_val r ekT) hk.2
              obtain ⟨zz, hd, xs, rel, dd⟩ := dt_of I.hok hq
              have hzs : xs.length ≤ sizeLine := by rw [← Paired.length rel]; exact zz
              obtain ⟨pp, hpp⟩ : ∃ pp, atKey xs ks = some pp := by
                have q := rel.val ks
                rw [hz] at q
                cases h : atKey xs ks with
                | none => rw [h] at q; exact q.elim
                | some pp => exact ⟨pp, rfl⟩
              refine wpAny_delItem_heap (hsz := hzs) (tupleKind_room_in1 hu) (key_of I.hok hb) hd dd hpp fun h' dd' hs => ?_
              obtain ⟨o, es, ep, hq', h2, h3, h4, _, h5⟩ := dd'
              have relD := relDt_del r ekT
              have ex : Ext X.K H (upd H a (.dT (dropK ws ks))) := Ext.write hq trivial
              have I2 : Inv X pins σ (upd H a (.dT (dropK ws ks))) { s with heap := h', toks := s.toks + (tupleKind (mixKind X.prog X.w)).draws ks } :=
                d_write I (by rw [hq]; exact True.intro) hs ⟨o, hq'⟩ ⟨Nat.le_trans (dropK_le ws ks) zz, hd, _, (L2.DX.KT_drop ks rel).keeps (fun c ys ec => (by rw [upd_ne (ne_of ec hq (fun z => nomatch z))]; exact ec)), o, es, ep, hq', h2, h3, h4, h5⟩
              by_cases hnil : ddelP kvs (.tup zs) = []
              · rw [hnil] at relD
                have e0 : dropK ws ks = [] := by
                  generalize dropK ws ks = l at relD
                  cases relD
                  rfl
                rw [e0] at I2
                have I3 := relabK I2 upd_same
                have e1 : upd (upd H a (.dT [])) a (.dK []) = upd H a (.dK []) := by
                  funext c
                  by_cases z : c = a
                  · rw [z, upd_same, upd_same]
                  · rw [upd_ne z, upd_ne z, upd_ne z]
                rw [e1] at I3
                rw [hnil] at k
                have ex2 : Ext X.K H (upd H a (.dK [])) := Ext.write hq trivial
                refine k _ _ I3 ex2 (S.write hr hq trivial ⟨_, .inl ⟨[], rfl, .nil⟩, ?_⟩)
                rw [if_neg Bool.false_ne_true]; exact upd_same
              · refine k _ _ I2 ex (S.write hr hq trivial ⟨_, .inr ⟨hnil, _, rfl, relD.mono (Le.refl _) ex⟩, ?_⟩)
                rw [if_neg Bool.false_ne_true]; exact upd_same
      · cases e
    · cases e
  · cases e
theorem ms_del (hu : X.A.units + 1 < cLine) (ho : PE X o (tM X.K cl W fo)) (hi : PE X i (tM X.K cl W fi)) : PS X (.Delete [.Subscript o i tpos] pos) (tMS X.K cl W (sDel fo fi)) := by
  refine ⟨fun pins s σ H D I ⟨ρ, st, σp, S, rs, h⟩ => ?_⟩
  refine wpAny_Delete (wpAny_deleteEach_cons (wpAny_delete_Subscript (thn (ho.run pins s σ H _ I (tM.beh S rs (toS_post rs h))) fun u s1 ⟨x, H1, I1, r1, ρ1, st1, p, S1, rs1, rp, h1⟩ => ?_)))
  have h2 := Res.post.imp (toS_post rs1 h1) (fun q st2 ρ2 H2 l2 e2 s2 h2 => (⟨rp.mono l2 e2, h2⟩ : RelP X.K ρ2 H2 p x ∧ _)) fun _ _ _ z => z
  refine thn (hi.run pins s1 σ H1 _ I1 (tM.beh S1 rs1 h2)) fun iv s2 ⟨y, H2, I2, r2, ρ2, st2, q, S2, rs2, rq, rp2, h3⟩ => ?_
  split at h3
  · next st3 ed => exact del_run hu I2 S2 rp2 rq r1 r2 ed fun s' H' I' ex S3 => wpAny_deleteEach_nil ⟨σ, H', I', h3 ρ2 H' σ (Le.refl _) ex S3 (rs2.mono (Le.refl _) ex)⟩
  · exact h3.elim
end

def putD (D : Nat) (y z : PV) (st : Sto) : Res Unit := match st.get D with
  | some (.dct kvs false) => if kindK y = some false ∧ kfit kvs false y = true ∧ sz (kvs.length + 1) = true then .ok () (st.set D (.dct (dputP kvs y z) false)) else .stuck
  | _ => .stuck
def dcStep (ft : MT) (fk fv : ME) (D : Nat) : Sl → Sto → Res Unit := fun σ st => (ft σ st).bind fun b st1 => if b = true then (fk σ st1).bind fun y st2 => (fv σ st2).bind fun z st3 => putD D y z st3 else .ok () st1
def mDc (w : MW) (g : MG) (ft : MT) (fk fv : ME) (vs : List Nat) : ME := fun σ st => (w σ st).bind fun p st1 =>
  (cpGo p.2 g (dcStep ft fk fv st1.nx) (wipeP σ vs) p.1 (st1.add (.dct [] false))).bind fun _ st2 => .ok (.ref st1.nx) st2
section
variable {X : Cx} {cl : CT} {W : WX} {kx vx tg iter : Expr} {ifs : List Expr} {scope : Scope} {own : List (Str × Nat)} {pos : Pos} {w : MW} {mg : MG} {ft : MT} {fk fv : ME}
theorem new_dict {K : PySem.W.Frag} {ρ : Rho} {H : Hp} {st : Sto} {D : Addr} (S : Sim K cl ρ st H) (hD : H D = none) : Le ρ (ρ.put st.nx D) ∧ Ext K H (upd H D (.dK [])) ∧ Sim K cl (ρ.put st.nx D) (st.add (.dct [] false)) (upd H D (.dK [])) := by
  refine ⟨S.le_put D, Ext.new hD, S.new hD ⟨_, .inl ⟨[], rfl, .nil⟩, ?_⟩⟩
  rw [if_neg Bool.false_ne_true]; exact upd_same
theorem put_post {K : PySem.W.Frag} {ρ : Rho} {H : Hp} {st : Sto} {Dn : Nat} {D : Addr} {y z : PV} {u v : V} {Nx : Hp → Prop} {E : Value → Option Addr → Hp → Prop} (S : Sim K cl ρ st H) (hr : ρ Dn = some D) (ry : RelP K ρ H y u) (rz : RelP K ρ H z v)
    (h : (putD Dn y z st).post K cl ρ H (fun _ _ _ H' => Nx H') E) : ∃ kvs k, u = kV k ∧ H D = some (.dK kvs) ∧ kvs.length < sizeLine ∧ Nx (upd H D (.dK (putK kvs k v))) := by
  unfold putD at h
  split at h
  · next kvs e =>
    split at h
    · next hc =>
      obtain ⟨hk, hfit, hl⟩ := hc
      obtain ⟨k, ek⟩ := kindK_f hk
      obtain rfl := keyK_val ek ry
      have hkk : ∀ p r, kvs = p :: r → kindK p.1 = some false := by
        rcases kfit_k hfit with ⟨_, kk⟩ | ⟨kt, _⟩
        · exact kk
        · rw [hk] at kt; cases kt
      obtain ⟨u, rd, q⟩ := S.at_ hr e
      rw [if_neg Bool.false_ne_true] at q
      obtain ⟨ws, rfl, r⟩ := fit_k rd hkk
      have ex : Ext K H (upd H D (.dK (putK ws k v))) := Ext.write q trivial
      refine ⟨ws, k, rfl, q, by rw [← r.length]; exact sz_lt hl, h ρ _ (Le.refl _) ex (S.write hr q trivial ⟨_, .inl ⟨_, rfl, relDk_put (r.mono (Le.refl _) ex) ek (rz.mono (Le.refl _) ex)⟩, ?_⟩)⟩
      rw [if_neg Bool.false_ne_true]; exact upd_same
    · exact h.elim
  · exact h.elim
theorem me_dc (hc : X.calm = true) (hN : X.N.Nodup) (hi : PI X tg iter (tW X.K cl W w)) (ok : BlkOk X.N X.env.scope scope own)
    (hg : ∀ (s : Shared) (H : Hp) (C : Addr) (cc : List (Str × Addr)) (fp : List Addr), PG (X.blk s H scope (compEnvC scope cc C X.env) fp) tg (tMG X.K (own.map (·.2)) mg))
    (ht : ∀ (s : Shared) (H : Hp) (C : Addr) (cc : List (Str × Addr)) (fp : List Addr), PTs (X.blk s H scope (compEnvC scope cc C X.env) fp) ifs (tMT X.K cl W0 ft))
    (hk : ∀ (s : Shared) (H : Hp) (C : Addr) (cc : List (Str × Addr)) (fp : List Addr), PE (X.blk s H scope (compEnvC scope cc C X.env) fp) kx (tM X.K cl W0 fk))
    (he : ∀ (s : Shared) (H : Hp) (C : Addr) (cc : List (Str × Addr)) (fp : List Addr), PE (X.blk s H scope (compEnvC scope cc C X.env) fp) vx (tM X.K cl W0 fv)) (hs : ∀ x, foldedSetIterable iter X.env x = pure x := by intro _; rfl) :
    PE X (.DictComp kx vx [⟨tg, iter, ifs, 0⟩] scope pos) (tM X.K cl W (mDc w mg ft fk fv (own.map (·.2)))) :=
  (pe_dc hc hN hi ok hg ht hk he hs).imp fun σ H Q ⟨ρ, st, σp, S, rs, h⟩ => by
    refine ⟨ρ, st, σp, S, rs, Res.post.imp (Res.post.bind h) (fun p st1 ρ1 H1 l1 e1 S1 h1 J ok D hD => ?_) fun _ _ _ z => z⟩
    obtain ⟨l2, e2, S2⟩ := new_dict S1 hD
    have hD2 : (ρ1.put st1.nx D) st1.nx = some D := Rho.put_same
    have h2 := Res.post.bind (Res.post.mono h1 l2 e2)
    refine cp_loop (Fin := fun H => Q (.ref D) H) (ok.later l2 e2) S2 (Res.post.imp h2 (fun _ st' ρ' H' l' e' S' h' => Res.post.now S' h' _ (.ref (l' _ _ hD2))) fun _ _ _ z => z) ?_
    intro v H3 Nx x ρ3 st3 σ3 l3 e3 S3 rv hg3 h3
    refine ⟨ρ3, wipeP σp (own.map (·.2)), x, ((rs.mono (l1.trans l2) (e1.trans e2)).mono l3 e3).wipe (own.map (·.2)), rv, σ3, hg3, fun σ4 rs4 hw4 => ⟨by rw [hw4, wipe_wipe], ρ3, st3, σ3, S3, rs4, ?_⟩⟩
    refine Res.post.imp (Res.post.bind h3) (fun b st4 ρ4 H4 l4 e4 S4 h4 => ?_) fun _ _ _ z => z
    cases b with
    | false => exact iteF (Res.post.now S4 h4)
    | true =>
      refine iteT ⟨ρ4, st4, σ3, S4, rs4.mono l4 e4, Res.post.imp (Res.post.bind h4) (fun y st5 ρ5 H5 l5 e5 S5 h5 u ru => ?_) fun _ _ _ z => z⟩
      refine ⟨ρ5, st5, σ3, S5, (rs4.mono l4 e4).mono l5 e5, Res.post.imp (Res.post.bind h5) (fun z st6 ρ6 H6 l6 e6 S6 h6 v2 rv2 => ?_) fun _ _ _ z => z⟩
      exact put_post S6 (l6 _ _ (l5 _ _ (l4 _ _ (l3 _ _ hD2)))) (ru.mono l6 e6) rv2 h6
end
end MP
set_option Elab.async false
set_option linter.all false
set_option maxRecDepth 100000
set_option maxHeartbeats 2000000
namespace MP
open PySem PySem.Spec L2
def outV (r : ResS) : Res PV := match r with
  | .nx _ s => .ok .non s
  | .rt v s => .ok v s
  | .err x _ s => .err x s
  | _ => .stuck
def slots (n : Nat) (args : List PV) : Sl := args.map some ++ List.replicate (n - args.length) none
def runB (n : Nat) (b : MS) (args : List PV) (st : Sto) : Res PV := outV (b (slots n args) st)
theorem start_rel {K : PySem.W.Frag} {ρ : Rho} {H : Hp} {N : List Str} {args : List PV} {vs : List V} (r : RelPs K ρ H args vs) : RelS K ρ H (slots N.length args) (L2.start N vs) := by
  unfold slots L2.start
  have hl := r.length
  refine ⟨by simp [hl], fun i x q => ?_⟩
  by_cases h : i < args.length
  · rw [List.getElem?_append_left (by simpa using h), List.getElem?_map] at q
    obtain ⟨y, h1, h2⟩ := Option.map_eq_some_iff.mp q
    cases h2
    obtain ⟨v, h3, h4⟩ := r.get h1
    refine ⟨v, ?_, h4⟩
    rw [List.getElem?_append_left (by simpa [← hl] using h), List.getElem?_map, h3]
    rfl
  · rw [List.getElem?_append_right (by simpa using h)] at q
    have := List.mem_of_getElem? q
    rw [List.mem_replicate] at this
    exact nomatch this.2
section
variable {P : Program} {w : World} {K : PySem.W.Frag} {mg : Str → Option Value} {base : Heap} {cl : CT}
abbrev CxD (P : Program) (w : World) (K : PySem.W.Frag) (mg : Str → Option Value) (base : Heap) (N : List Str) (qual : Str) (scope : Scope) (f : Addr) (cd : Value) (A : Around) (outer : List Env) (s : Shared) (H : Hp) (E : XK) : Cx :=
  cxOf (L2.CX P w) P w K mg base N qual scope f cd A outer s H E
abbrev WD (E : XK) : WX := fun cls d _ H => E cls d H
theorem tkD {N : List Str} {qual : Str} {scope : Scope} {f : Addr} {cd : Value} {A : Around} {outer : List Env} {s : Shared} {H : Hp} {E : XK} : Takes (CxD P w K mg base N qual scope f cd A outer s H E) (WD E) := takes_of rfl rfl rfl rfl
theorem poD {N : List Str} {qual : Str} {scope : Scope} {f : Addr} {cd : Value} {A : Around} {outer : List Env} {s : Shared} {H : Hp} {E : XK} : PassesOwn (model (CxD P w K mg base N qual scope f cd A outer s H E).prog (CxD P w K mg base N qual scope f cd A outer s H E).w) (CxD P w K mg base N qual scope f cd A outer s H E).A (CxD P w K mg base N qual scope f cd A outer s H E).env (CxD P w K mg base N qual scope f cd A outer s H E).xe := passes_of rfl
/-- a def's body, walked -/
abbrev BodyOk (P : Program) (w : World) (K : PySem.W.Frag) (mg : Str → Option Value) (base : Heap) (cl : CT) (k : Nat) (f : Addr) (N : List Str) (qual : Str) (scope : Scope) (body : List Stmt) (b : MS) : Prop :=
  ∀ (cdv : Value) (A : Around) (outer : List Env) (s : Shared) (H : Hp) (E : XK), Room k (A.deeper (PyProof.Rows.envOfC qual scope s.heap.objs.size f cdv)) → PSs (CxD P w K mg base N qual scope f cdv A outer s H E) body (tMS K cl (WD E) b)
theorem body_go {X : Cx} {body : List Stmt} {N : List Str} {b : MS} {E : XK} {args : List PV} {vs : List V} {H : Hp} {Q : VK} {ρ : Rho} {st : Sto} (S : Sim K cl ρ st H) (r : RelPs K ρ H args vs) (h : (runB N.length b args st).post K cl ρ H (Val K Q) E) :
    tMS K cl (WD E) b { nx := fun _ H' => Q .non H', rt := Q } (L2.start N vs) H := by
  refine ⟨ρ, st, slots N.length args, S, start_rel r, ?_⟩
  unfold runB at h
  cases q : b (slots N.length args) st with
  | nx σ s => rw [q] at h; exact fun ρ' H' σ' l e S' _ => h ρ' H' l e S' _ .non
  | rt v s => rw [q] at h; exact fun ρ' H' u l e S' ru => h ρ' H' l e S' u ru
  | bk σ s => rw [q] at h; exact h.elim
  | ct σ s => rw [q] at h; exact h.elim
  | err x σ s => rw [q] at h; exact fun ρ' H' C d σ' l e S' _ rx => h ρ' H' C d l e S' rx
  | stuck => rw [q] at h; exact h.elim
theorem fn_mp {k : Nat} {x qual : Str} {st0 : Stmt} {f : Addr} {fd : FuncData} {N ps : List Str} {b : MS} (F : Fun K x qual st0 f fd) (S : FnScope N ps (defScope st0)) (hb : BodyOk P w K mg base cl k f N qual (defScope st0) (defBody st0) b) :
    FnOk P w K mg base (L2.CX P w) (k + 1) f fd ps (spM K cl ps.length (runB N.length b)) :=
  F.okX S (fun vs H Q E h => spM_len vs H Q E h) fun cdv A outer s H vs Q E hr ⟨ρ, st, args, S', r, _, h⟩ => ⟨_, hb cdv A outer s H E hr, body_go (X := CxD P w K mg base N qual (defScope st0) f cdv A outer s H E) (body := defBody st0) S' r h⟩
/-- .. with defaults -/
theorem fn_mpD {k : Nat} {x qual : Str} {st0 : Stmt} {f : Addr} {N ps : List Str} {b : MS} {oc : Value} {od an : Option Addr} {osl : Array (Option Value)} {dV kV doc pm cdv ct : Value}
    (l : K.lookup f = some ⟨oc, od, .func (PySem.W.fnOf x qual (defArgs st0) (defBody st0) (defScope st0) dV kV doc pm an cdv ct), osl⟩) (c : PySem.W.codeIn K cdv qual = true) (S : FnScope N ps (defScope st0)) (hb : BodyOk P w K mg base cl k f N qual (defScope st0) (defBody st0) b) :
    FnOk P w K mg base (L2.CX P w) (k + 1) f (PySem.W.fnOf x qual (defArgs st0) (defBody st0) (defScope st0) dV kV doc pm an cdv ct) ps (spM K cl ps.length (runB N.length b)) :=
  fn_of l c S (fun vs H Q E h => spM_len vs H Q E h) fun A outer s H vs Q E hr ⟨ρ, st, args, S', r, _, h⟩ => ⟨_, hb cdv A outer s H E hr, body_go (X := CxD P w K mg base N qual (defScope st0) f cdv A outer s H E) (body := defBody st0) S' r h⟩
/-- a def that may be called by its name -/
structure CalM (P : Program) (w : World) (K : PySem.W.Frag) (mg : Str → Option Value) (base : Heap) (cl : CT) (k : Nat) (x : Str) (n : Nat) (ks : List Str) (m : List PV → Sto → Res PV) (gP : List PV → List PV → List PV) : Prop where
  ex : ∃ (f : Addr) (fd : FuncData) (ps : List Str), FnOk P w K mg base (L2.CX P w) k f fd ps (spM K cl ps.length m) ∧ mg x = some (.ref f) ∧ PySem.W.keepIn K (.ref f) = true ∧ KBp K cl fd ps n ks gP
/-- a method -/
structure MetM (P : Program) (w : World) (K : PySem.W.Frag) (mg : Str → Option Value) (base : Heap) (cl : CT) (k c : Nat) (x : Str) (n : Nat) (m : List PV → Sto → Res PV) (gP : List PV → List PV → List PV) : Prop where
  ex : ∃ (f : Addr) (fd : FuncData) (ps : List Str), FnOk P w K mg base (L2.CX P w) k f fd ps (spM K cl ps.length m) ∧ Meth K (cl.ad c) x f ∧ KBp K cl fd ps (n + 1) [] gP
  cls : Cls K (cl.ad c)
  nf : ∀ z ∈ cl.fld c, z ≠ x
/-- a class that may be made -/
structure ClsM (P : Program) (w : World) (K : PySem.W.Frag) (mg : Str → Option Value) (base : Heap) (cl : CT) (k c : Nat) (x : Str) (n : Nat) (ks : List Str) (m : List PV → Sto → Res PV) (gP : List PV → List PV → List PV) : Prop where
  ex : ∃ (f : Addr) (fd : FuncData) (ps : List Str), FnOk P w K mg base (L2.CX P w) k f fd ps (spM K cl ps.length m) ∧ Mk K (cl.ad c) f ∧ KBp K cl fd ps (n + 1) ks gP
  nm : mg x = some (.ref (cl.ad c))
end
section
variable {X : Cx} {cl : CT} {W : WX} {o e : Expr} {es : List Expr} {kws : List Keyword} {fo fa : ME} {g gk : MEs} {k n c : Nat} {x mn : Str} {ks : List Str} {m : List PV → Sto → Res PV} {gP : List PV → List PV → List PV} {p pos apos : Pos}
theorem mc_call (C : CalM X.prog X.w X.K X.mg X.base cl k x n [] m gP) (hr : Room k X.A) (hg : Gl X x) (tk : Takes X W) (ha : PA X (e :: es) (tMA X.K cl W g)) (hl : Len g n) (hdb : (x == ("__debug__" : Str)) = false := by decide)
    (he : starEach (e :: es) X.env = (false, eval e X.env) :: starEach es X.env := by rfl) (hpl : (backTo pos (starEach es X.env)).any (·.1) = false := by rfl) : PE X (.Call (.Name x p) (e :: es) [] pos) (tM X.K cl W (mCall m gP g)) := by
  obtain ⟨f, fd, ps, F, hm, hk, hb⟩ := C.ex
  exact me_call F hr hg hm hk hb tk ha hl hdb he hpl
theorem mc_call0 (C : CalM X.prog X.w X.K X.mg X.base cl k x 0 [] m gP) (hr : Room k X.A) (hg : Gl X x) (tk : Takes X W) (hdb : (x == ("__debug__" : Str)) = false := by decide) : PE X (.Call (.Name x p) [] [] pos) (tM X.K cl W (mCall m gP mNil)) := by
  obtain ⟨f, fd, ps, F, hm, hk, hb⟩ := C.ex
  refine ⟨fun pins s σ H Q I ⟨ρ, st, σp, S, rs, h⟩ => ?_⟩
  obtain ⟨gg, gV, hb, hG⟩ := hb.ex
  refine wpAny_Call_Name_kw (ld_glob I hg hm ?_ hdb)
  refine PySem.W.callWith_K0 (first := []) I.kIn hk ?_
  obtain ⟨q1, q2⟩ := hG ρ H [] [] [] [] rfl rfl .nil .nil
  exact run_any (us := []) (vs := []) (zs := []) (ws := []) (ks := []) F hr hb tk I .nil .nil rfl rfl ⟨ρ, st, _, S, q1, q2, h⟩
theorem mc_callK (C : CalM X.prog X.w X.K X.mg X.base cl k x n ks m gP) (hr : Room k X.A) (hg : Gl X x) (tk : Takes X W) (ha : PA X (e :: es) (tMA X.K cl W g)) (hl : Len g n) (hkw : PK X kws (tMA X.K cl W gk)) (hlk : Len gk ks.length)
    (hall : (backToKw pos (keywordEach kws X.env)).all (·.1.isSome) = true := by rfl) (hks : (backToKw pos (keywordEach kws X.env)).filterMap (·.1) = ks := by rfl) (hdb : (x == ("__debug__" : Str)) = false := by decide)
    (he : starEach (e :: es) X.env = (false, eval e X.env) :: starEach es X.env := by rfl) (hpl : ((backTo pos (starEach (e :: es) X.env)).any (·.1) || (backToKw pos (keywordEach kws X.env)).any (·.1.isNone)) = false := by rfl) :
    PE X (.Call (.Name x p) (e :: es) kws pos) (tM X.K cl W (mCallK m gP g gk)) := by
  obtain ⟨f, fd, ps, F, hm, hk, hb⟩ := C.ex
  exact me_callK F hr hg hm hk hb tk ha hl hkw hlk hall hks hdb he hpl
theorem mc_meth {pl : Sem Bool} (C : MetM X.prog X.w X.K X.mg X.base cl k c mn n m gP) (hr : Room k X.A) (ho : PE X o (tM X.K cl W fo)) (tk : Takes X W) (ha : PA X (e :: es) (tMA X.K cl W g)) (hl : Len g n)
    (hst : starEach (e :: es) X.env = (false, eval e X.env) :: starEach es X.env := by rfl) (hpl : (backTo pos (starEach es X.env)).any (·.1) = false := by rfl)
    (ht : eval (.Call (.Attribute o mn apos) (e :: es) [] pos) X.env = (do
      let ov ← eval o X.env
      standAt apos.atName
      let (f, first) ← holding [ov] (getMethod ov mn pl)
      callWith pos f first (backTo pos (starEach (e :: es) X.env)) (backToKw pos (keywordEach [] X.env))) := by rfl) :
    PE X (.Call (.Attribute o mn apos) (e :: es) [] pos) (tM X.K cl W (mMeth c m gP fo g)) := by
  obtain ⟨f, fd, ps, F, hm, hb⟩ := C.ex
  exact me_meth ho C.cls hm C.nf F hr hb tk ha hl hst hpl ht
theorem mc_meth0 {pl : Sem Bool} (C : MetM X.prog X.w X.K X.mg X.base cl k c mn 0 m gP) (hr : Room k X.A) (ho : PE X o (tM X.K cl W fo)) (tk : Takes X W)
    (ht : eval (.Call (.Attribute o mn apos) [] [] pos) X.env = (do
      let ov ← eval o X.env
      standAt apos.atName
      let (f, first) ← holding [ov] (getMethod ov mn pl)
      callWith pos f first (backTo pos (starEach [] X.env)) (backToKw pos (keywordEach [] X.env))) := by rfl) :
    PE X (.Call (.Attribute o mn apos) [] [] pos) (tM X.K cl W (mMeth c m gP fo mNil)) := by
  obtain ⟨f, fd, ps, F, hm, hb⟩ := C.ex
  exact me_meth0 ho C.cls hm C.nf F hr hb tk ht
theorem mc_make0 (C : ClsM X.prog X.w X.K X.mg X.base cl k c x 0 [] m gP) (hr : Room (k + 1) X.A) (hg : Gl X x) (tk : Takes X W) (hdb : (x == ("__debug__" : Str)) = false := by decide) : PE X (.Call (.Name x p) [] [] pos) (tM X.K cl W (mMake c m gP mNil mNil)) := by
  obtain ⟨f, fd, ps, F, M, hb⟩ := C.ex
  exact me_make0 M F hr hg C.nm hb tk hdb
theorem mc_make (C : ClsM X.prog X.w X.K X.mg X.base cl k c x n [] m gP) (hr : Room (k + 1) X.A) (hg : Gl X x) (tk : Takes X W) (ha : PA X (e :: es) (tMA X.K cl W g)) (hl : Len g n) (hdb : (x == ("__debug__" : Str)) = false := by decide)
    (he : starEach (e :: es) X.env = (false, eval e X.env) :: starEach es X.env := by rfl) (hpl : (backTo pos (starEach es X.env)).any (·.1) = false := by rfl) : PE X (.Call (.Name x p) (e :: es) [] pos) (tM X.K cl W (mMake c m gP g mNil)) := by
  obtain ⟨f, fd, ps, F, M, hb⟩ := C.ex
  exact me_make M F hr hg C.nm hb tk ha hl hdb he hpl
theorem mc_makeK0 (C : ClsM X.prog X.w X.K X.mg X.base cl k c x 0 ks m gP) (hr : Room (k + 1) X.A) (hg : Gl X x) (tk : Takes X W) (hkw : PK X kws (tMA X.K cl W gk)) (hlk : Len gk ks.length)
    (hall : (backToKw pos (keywordEach kws X.env)).all (·.1.isSome) = true := by rfl) (hks : (backToKw pos (keywordEach kws X.env)).filterMap (·.1) = ks := by rfl) (hdb : (x == ("__debug__" : Str)) = false := by decide)
    (hpl : ((backTo pos (starEach [] X.env)).any (·.1) || (backToKw pos (keywordEach kws X.env)).any (·.1.isNone)) = false := by rfl) :
    PE X (.Call (.Name x p) [] kws pos) (tM X.K cl W (mMake c m gP mNil gk)) := by
  obtain ⟨f, fd, ps, F, M, hb⟩ := C.ex
  exact me_makeK0 M F hr hg C.nm hb tk hkw hlk hall hks hdb hpl
/-- one or the other -/
def mEither (f g : ME) : ME := fun σ st => match f σ st with
  | .stuck => g σ st
  | r => r
theorem me_either {e : Expr} {f g : ME} (h1 : PE X e (tM X.K cl W f)) (h2 : PE X e (tM X.K cl W g)) : PE X e (tM X.K cl W (mEither f g)) :=
  (pe_or h1 h2).imp fun σ H Q ⟨ρ, st, σp, S, rs, h⟩ => by
    unfold mEither at h
    cases q : f σp st with
    | stuck => rw [q] at h; exact .inr ⟨ρ, st, σp, S, rs, h⟩
    | ok v s => rw [q] at h; exact .inl ⟨ρ, st, σp, S, rs, by rw [q]; exact h⟩
    | err x s => rw [q] at h; exact .inl ⟨ρ, st, σp, S, rs, by rw [q]; exact h⟩
def sEither (f g : MS) : MS := fun σ st => match f σ st with
  | .stuck => g σ st
  | r => r
theorem ms_either {st0 : Stmt} {f g : MS} (h1 : PS X st0 (tMS X.K cl W f)) (h2 : PS X st0 (tMS X.K cl W g)) : PS X st0 (tMS X.K cl W (sEither f g)) := by
  have hor : PS X st0 (fun D σ H => tMS X.K cl W f D σ H ∨ tMS X.K cl W g D σ H) := ⟨fun pins s σ H D I q => q.elim (h1.run pins s σ H D I) (h2.run pins s σ H D I)⟩
  refine hor.imp fun D σ H ⟨ρ, st, σp, S, rs, h⟩ => ?_
  unfold sEither at h
  cases q : f σp st with
  | stuck => rw [q] at h; exact .inr ⟨ρ, st, σp, S, rs, h⟩
  | nx v s => rw [q] at h; exact .inl ⟨ρ, st, σp, S, rs, by rw [q]; exact h⟩
  | rt v s => rw [q] at h; exact .inl ⟨ρ, st, σp, S, rs, by rw [q]; exact h⟩
  | bk v s => rw [q] at h; exact .inl ⟨ρ, st, σp, S, rs, by rw [q]; exact h⟩
  | ct v s => rw [q] at h; exact .inl ⟨ρ, st, σp, S, rs, by rw [q]; exact h⟩
  | err x v s => rw [q] at h; exact .inl ⟨ρ, st, σp, S, rs, by rw [q]; exact h⟩
/-- what is never come to -/
def mStuck : ME := fun _ _ => .stuck
def sStuck : MS := fun _ _ => .stuck
def tStuck : MT := fun _ _ => .stuck
theorem me_stuck {e : Expr} : PE X e (tM X.K cl W mStuck) := ⟨fun _ _ _ _ _ _ ⟨_, _, _, _, _, h⟩ => h.elim⟩
theorem mt_stuck {e : Expr} : PT X e (tMT X.K cl W tStuck) := ⟨fun _ _ _ _ _ _ ⟨_, _, _, _, _, h⟩ => h.elim⟩
theorem ms_stuck {s : Stmt} : PS X s (tMS X.K cl W sStuck) := ⟨fun _ _ _ _ _ _ ⟨_, _, _, _, _, h⟩ => h.elim⟩
theorem mss_stuck {s : List Stmt} : PSs X s (tMS X.K cl W sStuck) := ⟨fun _ _ _ _ _ _ ⟨_, _, _, _, _, h⟩ => h.elim⟩
end
/-- the law's call: it gets the script, which it only reads -/
theorem law_sp {K : PySem.W.Frag} {cl : CT} {H : Hp} {a : Addr} {ns : List Int} {m : List PV → Sto → Res PV} {Q : VK} {E : XK} (hR : RoL K H a (ns.map V.int)) (hT : LamX.Tabs cl.tabs H) (h : ∃ s', m [.rls (ns.map .int)] ⟨#[]⟩ = .ok (.bl true) s') (hQ : ∀ H', Q (.bl true) H') :
    spM K cl 1 m [.ref a] H Q E := by
  obtain ⟨s', e⟩ := h
  refine ⟨fun _ => none, ⟨#[]⟩, [.rls (ns.map .int)], ⟨fun _ _ _ h => (nomatch h), fun _ _ h => (nomatch h), fun n o h => ?_, hT⟩, .cons (.rls hR (rel_ints ns)) .nil, rfl, ?_⟩
  · unfold Sto.get at h
    simp at h
  · rw [e]
    intro ρ' H' _ _ _ u ru
    cases ru
    exact hQ H'
theorem rol_only {K : PySem.W.Frag} {H : Hp} {a : Addr} {xs : List V} (hO : Only H) (h : SqL K H a xs) : RoL K H a xs := by
  rcases h with (h | h) | h
  · rcases hO a with q | ⟨o, ys, q⟩
    · rw [q] at h; cases h
    · rw [q] at h; cases h
  · exact .inl h
  · exact .inr h
end MP
set_option Elab.async false
set_option linter.all false
set_option maxRecDepth 100000
set_option maxHeartbeats 2000000
namespace MP
open PySem PySem.Spec L2
section
variable {X : Cx} {cl : CT} {W : WX} {a b : Expr} {fa fb : ME} {pos : Pos} {ga gb : MT}
theorem ow_lt : OpW X cl (compareOp .Lt) oLt := OpW.of op_lt (op2_I0 fun _ _ _ _ => .bl _)
theorem ow_le : OpW X cl (compareOp .LtE) oLe := OpW.of op_le (op2_I0 fun _ _ _ _ => .bl _)
theorem ow_gt : OpW X cl (compareOp .Gt) oGt := OpW.of op_gt (op2_I0 fun _ _ _ _ => .bl _)
theorem ow_ge : OpW X cl (compareOp .GtE) oGe := OpW.of op_ge (op2_I0 fun _ _ _ _ => .bl _)
theorem ow_isN : OpW X cl (compareOp .Is) oIsN := OpW.of op_isN fun ρ st H x y v w Q S rx ry h => by
  unfold oIsN at h
  split at h
  · cases ry
    refine ⟨rfl, ?_⟩
    cases rx <;> exact Res.post.now S h _ (.bl _)
  · exact h.elim
theorem ow_notN : OpW X cl (compareOp .IsNot) oNotN := OpW.of op_notN fun ρ st H x y v w Q S rx ry h => by
  unfold oNotN at h
  split at h
  · cases ry
    refine ⟨rfl, ?_⟩
    cases rx <;> exact Res.post.now S h _ (.bl _)
  · exact h.elim
theorem calm_isN : Calm2 oIsN := fun x y st e s' h => by unfold oIsN at h; split at h <;> cases h
theorem calm_notN : Calm2 oNotN := fun x y st e s' h => by unfold oNotN at h; split at h <;> cases h
end
end MP
set_option Elab.async false
set_option linter.all false
set_option maxRecDepth 100000
set_option maxHeartbeats 2000000
namespace MP
open PySem PySem.Spec L2
section
variable {X : Cx} {cl : CT} {W : WX}
def sLockL (f : MS) : List Nat → MS
  | [] => f
  | n :: r => sLock (fun _ st => .ok (.ref n) st) (sLockL f r)
def sLocks (ids : Sl → Sto → List Nat) (f : MS) : MS := fun σ st => sLockL f (ids σ st) σ st
theorem ms_lockL {st0 : Stmt} {f : MS} (h : PS X st0 (tMS X.K cl W f)) : ∀ ids : List Nat, PS X st0 (tMS X.K cl W (sLockL f ids))
  | [] => h
  | n :: r => ms_lock _ (ms_lockL h r)
theorem ms_locks {st0 : Stmt} {f : MS} (ids : Sl → Sto → List Nat) (h : PS X st0 (tMS X.K cl W f)) : PS X st0 (tMS X.K cl W (sLocks ids f)) :=
  ⟨fun pins s σ H D I ⟨ρ, st, σp, S, rs, q⟩ => (ms_lockL h (ids σp st)).run pins s σ H D I ⟨ρ, st, σp, S, rs, q⟩⟩
end
/-- an own exception class with one attribute -/
structure ExM (P : Program) (w : World) (K : PySem.W.Frag) (mg : Str → Option Value) (base : Heap) (cl : CT) (c : Nat) (f : Str) : Prop where
  oex : OexC K (cl.ad c)
  fn : ∃ (fI : Addr) (fd : FuncData) (ps : List Str), PySem.W.findIn K (.ref (cl.ad c)) "__init__" = some (some (.ref fI)) ∧ PySem.W.typeIn K (.ref fI) = some (.type "function") ∧
    FnOk P w K mg base CX0 1 fI fd ps (spXi (cl.ad c) f) ∧ Binds K fd ps []
theorem ExM.at_ {X : Cx} {cl : CT} {c : Nat} {f : Str} (M : ExM X.prog X.w X.K X.mg X.base cl c f) (hr : Room 2 X.A) : ExC X cl c f := by
  obtain ⟨o, fI, fd, ps, h1, h2, h3, h4⟩ := M
  exact ⟨o, fI, 1, fd, ps, h1, h2, h3, hr, h4⟩
end MP
set_option Elab.async false
set_option linter.all false
set_option maxRecDepth 100000
set_option maxHeartbeats 2000000
namespace MP
open PySem PySem.Spec L2
/-- the table of the code object at c: P, for the lambdas named q -/
structure TabF (base : Heap) (mg : Str → Option Value) (cl : CT) (c P : Addr) (q : Str) : Prop where
  tb : LamX.TabB base mg c P
  mem : (P, q) ∈ cl.tabs
  one : ∀ p ∈ cl.tabs, p.1 = P → p.2 = q
/-- a def x(a) that is handed lambdas -/
structure SaidM (K : PySem.W.Frag) (mg : Str → Option Value) (x a : Str) (st : Stmt) : Prop where
  ex : ∃ (g : Addr) (dV kV doc pm cdv ct oc : Value) (an od : Option Addr) (osl : Array (Option Value)), mg x = some (.ref g) ∧ PySem.W.keepIn K (.ref g) = true ∧
    K.lookup g = some ⟨oc, od, .func (PySem.W.fnOf x x (defArgs st) (defBody st) (defScope st) dV kV doc pm an cdv ct), osl⟩ ∧ PySem.W.codeIn K cdv x = true ∧
    L2.Binds K (PySem.W.fnOf x x (defArgs st) (defBody st) (defScope st) dV kV doc pm an cdv ct) [a] []
def subOf (l : List ((Nat × Nat) × Bool)) : Nat → Nat → Option Bool := fun c j => l.lookup (c, j)
theorem mem_lookup {α β : Type} [BEq α] [LawfulBEq α] {x : α} {b : β} : ∀ {l : List (α × β)}, l.lookup x = some b → (x, b) ∈ l
  | [], e => by cases e
  | (y, d) :: r, e => by
    rw [List.lookup_cons] at e
    split at e
    · next q =>
      cases e
      rw [eq_of_beq q]
      exact List.mem_cons_self
    · exact List.mem_cons_of_mem _ (mem_lookup e)
theorem subOf_ok {K : PySem.W.Frag} {cl : CT} {l : List ((Nat × Nat) × Bool)} (h : ∀ p ∈ l, PySem.W.exmOne K (.ref (cl.ad p.1.1)) (.ref (cl.ad p.1.2)) = some p.2) : ∀ c j b, subOf l c j = some b → PySem.W.exmOne K (.ref (cl.ad c)) (.ref (cl.ad j)) = some b :=
  fun c j b e => h ((c, j), b) (by unfold subOf at e; exact mem_lookup e)
section
variable {X : Cx} {cl : CT} {W : WX}
theorem mc_lam {x a : Str} {c P : Addr} {k : Nat} {st : Stmt} {h₀ : ExceptHandler} {hds : List ExceptHandler} {hs : List HdP} {sub : Nat → Nat → Option Bool} {p1 p2 p3 p8 : Pos} {Ng : List Str} {q : Str}
    {params : Arguments} {body : Expr} {scope : Scope} {fb : ME} {p lpos pos : Pos} (S : SaidM X.K X.mg x a st) (hg : Gl X x) (eb : defBody st = [.Try [.Return (some (.Call (.Name a p1) [] [] p2)) p3] (h₀ :: hds) [] [] p8])
    (Sg : FnScope Ng [a] (defScope st)) (hNg : Ng[0]? = some a) (hva : Vis (defScope st) a)
    (hsub : ∀ c j b, sub c j = some b → PySem.W.exmOne X.K (.ref (cl.ad c)) (.ref (cl.ad j)) = some b)
    (hh : ∀ (g : Addr) (cdv : Value) (s : Shared) (H : Hp), HdsX (cxOf C8.CX0 X.prog X.w X.K X.mg X.base Ng x (defScope st) g cdv X.A X.stack s H C8.E0).nox (h₀ :: hds) (hdsV X.K cl hs)) (h0 : ∀ f : Addr, (L2.start Ng [V.ref f])[0]? = some (some (V.ref f)))
    (TF : TabF X.base X.mg cl c P q) (hq : q = X.env.qual ++ "<lambda>") (hcode : X.env.code = .ref c) (hr : Room (k + 2) X.A) (L : LamX.LamS X.env.scope scope) (hdef : defaultsOf params X.env = ([], []))
    (hbind : ∀ (q : Str) (cc : List (Str × Addr)) (pm cv ctv : Value), bindArgs (PySem.W.kla_fn "<lambda>" q params body scope cc pm cv ctv) ⟨[], []⟩ = pure [])
    (hbody : ∀ (A : Around) (outer : List Env) (s : Shared) (H : Hp) (E : XK) (f c' : Addr), Room k (A.deeper (LamX.lamEnv X scope s.heap.objs.size f c')) → PE (LamX.lamCx X A outer s H E scope f c') body (tM X.K cl (fun cls d _ H => E cls d H) fb))
    (hdb : (x == ("__debug__" : Str)) = false := by decide) (hd : (a == ("__debug__" : Str)) = false := by decide) (hcd : (a == ("__classdict__" : Str)) = false := by decide) :
    PE X (.Call (.Name x p) [.Lambda params body scope lpos] [] pos) (tM X.K cl W (mLam sub hs Ng.length fb)) := by
  obtain ⟨g, dV, kV, doc, pm, cdv, ct, oc, an, od, osl, hm, hk, lk, hcg, hb⟩ := S.ex
  rw [eb] at lk hb
  subst hq
  exact me_lam hg hm hk lk hcg hb Sg hNg hva hsub (hh g cdv) h0 TF.tb hcode TF.mem TF.one hr L hdef hbind hbody hdb hd hcd
end
section
variable {P : Program} {w : World} {K : PySem.W.Frag} {mg : Str → Option Value} {base : Heap} {cl : CT}
/-- a def's body, walked, where its code object is known -/
abbrev BodyAt (P : Program) (w : World) (K : PySem.W.Frag) (mg : Str → Option Value) (base : Heap) (cl : CT) (k : Nat) (f : Addr) (cdv : Value) (N : List Str) (qual : Str) (scope : Scope) (body : List Stmt) (b : MS) : Prop :=
  ∀ (A : Around) (outer : List Env) (s : Shared) (H : Hp) (E : XK), Room k (A.deeper (PyProof.Rows.envOfC qual scope s.heap.objs.size f cdv)) → PSs (CxD P w K mg base N qual scope f cdv A outer s H E) body (tMS K cl (WD E) b)
theorem fn_mpA {k : Nat} {x qual : Str} {st0 : Stmt} {f : Addr} {N ps : List Str} {b : MS} {oc : Value} {od an : Option Addr} {osl : Array (Option Value)} {dV kV doc pm cdv ct : Value}
    (l : K.lookup f = some ⟨oc, od, .func (PySem.W.fnOf x qual (defArgs st0) (defBody st0) (defScope st0) dV kV doc pm an cdv ct), osl⟩) (c : PySem.W.codeIn K cdv qual = true) (S : FnScope N ps (defScope st0)) (hb : BodyAt P w K mg base cl k f cdv N qual (defScope st0) (defBody st0) b) :
    FnOk P w K mg base (L2.CX P w) (k + 1) f (PySem.W.fnOf x qual (defArgs st0) (defBody st0) (defScope st0) dV kV doc pm an cdv ct) ps (spM K cl ps.length (runB N.length b)) :=
  fn_of l c S (fun vs H Q E h => spM_len vs H Q E h) fun A outer s H vs Q E hr ⟨ρ, st, args, S', r, _, h⟩ => ⟨_, hb A outer s H E hr, body_go (X := CxD P w K mg base N qual (defScope st0) f cdv A outer s H E) (body := defBody st0) S' r h⟩
theorem pss_lock {X : Cx} {st : List Stmt} {t : TS} (h : PSs X st t) : PSs X st (tLock t) := by
  refine ⟨fun pins s σ H D I hw => ?_⟩
  obtain ⟨d, u, hd, mu, hw⟩ := hw
  obtain ⟨od, I1⟩ := I.lock hd mu
  refine thn (h.run pins s σ _ _ I1 (hw od)) fun f s1 q => ?_
  cases f with
  | next => obtain ⟨σ', H', I2, e, q⟩ := q; exact ⟨σ', _, I2.unlock e (I.nofrz hd mu), q⟩
  | brk => obtain ⟨σ', H', I2, e, q⟩ := q; exact ⟨σ', _, I2.unlock e (I.nofrz hd mu), q⟩
  | cont => obtain ⟨σ', H', I2, e, q⟩ := q; exact ⟨σ', _, I2.unlock e (I.nofrz hd mu), q⟩
  | ret v => obtain ⟨x, σ', H', I2, r, e, q⟩ := q; exact ⟨x, σ', _, I2.unlock e (I.nofrz hd mu), r, q⟩
def spLaw (K : PySem.W.Frag) (cl : CT) (m : List PV → Sto → Res PV) (E0 : XK) : Sp := fun vs H Q E => ∃ (a : Addr) (ns : List Int), vs = [.ref a] ∧ SqL K H a (ns.map V.int) ∧ LamX.Tabs cl.tabs H ∧ (∃ s', m [.rls (ns.map .int)] ⟨#[]⟩ = .ok (.bl true) s') ∧ ∀ H', Q (.bl true) H'
theorem tabs_frz {T : List (Addr × Str)} {H : Hp} {a : Addr} {u : HO} {xs : List V} (h : LamX.Tabs T H) (ha : H a = some (.lst xs)) : LamX.Tabs T (upd H a u) := fun p hp => by
  obtain ⟨ps, h1, h2, h3⟩ := h p hp
  refine ⟨ps, ?_, h2, fun pos cv e => ?_⟩
  · rw [upd_ne (ne_of h1 ha (fun z => nomatch z))]; exact h1
  · obtain ⟨c, e1, e2⟩ := h3 pos cv e
    refine ⟨c, e1, ?_⟩
    rw [upd_ne (ne_of e2 ha (fun z => by unfold LamX.CodeO at z; cases z))]; exact e2
theorem law_go {N : List Str} {b : MS} {E : XK} {a : Addr} {ns : List Int} {H : Hp} {D : Ends} (hR : RoL K H a (ns.map V.int)) (hT : LamX.Tabs cl.tabs H) (h : ∃ s', runB N.length b [.rls (ns.map .int)] ⟨#[]⟩ = .ok (.bl true) s')
    (hQ : ∀ H', (∀ b o u, H b = some (.frz o u) → H' b = some (.frz o u)) → D.rt (.bl true) H') : tMS K cl (WD E) b D (L2.start N [.ref a]) H := by
  obtain ⟨s', e⟩ := h
  have S : Sim K cl (fun _ => none) ⟨#[]⟩ H := ⟨fun _ _ _ h => (nomatch h), fun _ _ h => (nomatch h), fun n o h => by
    unfold Sto.get at h
    simp at h, hT⟩
  refine ⟨_, _, _, S, start_rel (.cons (.rls hR (rel_ints ns)) .nil), ?_⟩
  unfold runB at e
  cases q : b (slots N.length [.rls (ns.map .int)]) ⟨#[]⟩ with
  | rt v s =>
    rw [q] at e
    cases e
    intro ρ' H' u l e' S' ru
    cases ru
    exact hQ H' fun b o u z => e'.frz b o u z
  | nx _ _ => rw [q] at e; cases e
  | bk _ _ => rw [q] at e; cases e
  | ct _ _ => rw [q] at e; cases e
  | err _ _ _ => rw [q] at e; cases e
  | stuck => rw [q] at e; cases e
theorem fn_law {k : Nat} {x qual : Str} {st0 : Stmt} {f : Addr} {N : List Str} {p : Str} {b : MS} {oc : Value} {od an : Option Addr} {osl : Array (Option Value)} {dV kV doc pm cdv ct : Value}
    (l : K.lookup f = some ⟨oc, od, .func (PySem.W.fnOf x qual (defArgs st0) (defBody st0) (defScope st0) dV kV doc pm an cdv ct), osl⟩) (c : PySem.W.codeIn K cdv qual = true) (S : FnScope N [p] (defScope st0)) (hb : BodyAt P w K mg base cl k f cdv N qual (defScope st0) (defBody st0) b) :
    FnOk P w K mg base (L2.CX P w) (k + 1) f (PySem.W.fnOf x qual (defArgs st0) (defBody st0) (defScope st0) dV kV doc pm an cdv ct) [p] (spLaw K cl (runB N.length b) fun _ _ _ => False) :=
  fn_of l c S (fun vs H Q E ⟨a, ns, h, _⟩ => by rw [h]; rfl) fun A outer s H vs Q E hr ⟨a, ns, hv, hS, hT, hm, hQ⟩ => by
    subst hv
    have B := hb A outer s H E hr
    rcases hS with (h | h) | h
    · refine ⟨_, pss_lock B, a, .lst (ns.map V.int), h, trivial, fun od => ?_⟩
      exact law_go (.inl ⟨od, upd_same⟩) (tabs_frz hT h) hm fun H' z => ⟨z _ _ _ upd_same, hQ _⟩
    · exact ⟨_, B, law_go (.inl h) hT hm fun H' _ => hQ H'⟩
    · exact ⟨_, B, law_go (.inr h) hT hm fun H' _ => hQ H'⟩
end
end MP
set_option Elab.async false
set_option linter.all false
set_option maxRecDepth 100000
set_option maxHeartbeats 2000000
namespace MP
open PySem PySem.Spec L2
section
variable {X : Cx} {cl : CT} {W : WX} {elt tg iter tg1 iter1 : Expr} {ifs ifs1 : List Expr} {scope : Scope} {own : List (Str × Nat)} {vs1 : List Nat} {pos spos py : Pos} {w w1 : MW} {mg mg1 : MG} {ft ft1 : MT} {fe : ME}
theorem ms_setLc2 {i : Nat} {y : Str} (hc : X.calm = true) (hN : X.N.Nodup) (hy : X.N[i]? = some y) (hyl : X.env.scope.names.lookup y = some .local) (hsw : swapsWith (.ListComp elt [⟨tg, iter, ifs, 0⟩, ⟨tg1, iter1, ifs1, 0⟩] scope pos) (some (.Name y py)) spos.line X.env = pure true)
    (hi : PI X tg iter (tW X.K cl W w)) (ok : BlkOk X.N X.env.scope scope own) (hv : ∀ i ∈ vs1, i ∈ own.map (·.2))
    (hg : ∀ (s : Shared) (H : Hp) (C : Addr) (cc : List (Str × Addr)) (fp : List Addr), PG (X.blk s H scope (compEnvC scope cc C X.env) fp) tg (tMG X.K (own.map (·.2)) mg))
    (ht : ∀ (s : Shared) (H : Hp) (C : Addr) (cc : List (Str × Addr)) (fp : List Addr), PTs (X.blk s H scope (compEnvC scope cc C X.env) fp) ifs (tMT X.K cl W0 ft))
    (hi1 : ∀ (s : Shared) (H : Hp) (C : Addr) (cc : List (Str × Addr)) (fp : List Addr), PI (X.blk s H scope (compEnvC scope cc C X.env) fp) tg1 iter1 (tW X.K cl W0 w1))
    (hg1 : ∀ (s : Shared) (H : Hp) (C : Addr) (cc : List (Str × Addr)) (fp : List Addr), PG (X.blk s H scope (compEnvC scope cc C X.env) fp) tg1 (tMG X.K vs1 mg1))
    (ht1 : ∀ (s : Shared) (H : Hp) (C : Addr) (cc : List (Str × Addr)) (fp : List Addr), PTs (X.blk s H scope (compEnvC scope cc C X.env) fp) ifs1 (tMT X.K cl W0 ft1))
    (he : ∀ (s : Shared) (H : Hp) (C : Addr) (cc : List (Str × Addr)) (fp : List Addr), PE (X.blk s H scope (compEnvC scope cc C X.env) fp) elt (tM X.K cl W0 fe)) (hs : ∀ x, foldedSetIterable iter X.env x = pure x := by intro _; rfl) (hs1 : ∀ env x, foldedSetIterable iter1 env x = pure x := by intro _ _; rfl) :
    PS X (.Assign [.Name y py] (.ListComp elt [⟨tg, iter, ifs, 0⟩, ⟨tg1, iter1, ifs1, 0⟩] scope pos) spos) (tMS X.K cl W (sSet i (mLc2 w mg ft w1 mg1 ft1 fe (own.map (·.2)) vs1))) :=
  (ps_setLc2 hc hN hy hyl hsw hi ok hv hg ht hi1 hg1 ht1 he hs hs1).imp fun D σ H ⟨ρ, st, σp, S, rs, h⟩ =>
    lc2_go (Q := fun x H1 => gName i x σ H1 D.nx) ⟨ρ, st, σp, S, rs, Res.post.imp (toS_post rs h) (fun x st1 ρ1 H1 l1 e1 S1 h1 v rv => nx_now S1 ((rs.mono l1 e1).set i rv) h1) fun _ _ _ z => z⟩
end
theorem exm_mk {K : PySem.W.Frag} {S J : Addr} {b : Bool} (h1 : PySem.W.subIn K (.ref J) (.type "BaseException") = some true) (h2 : PySem.W.isClsIn K J = true) (h3 : PySem.W.typeIn K (.ref J) = some (.type "type")) (h4 : PySem.W.subIn K (.ref S) (.ref J) = some b) :
    PySem.W.exmOne K (.ref S) (.ref J) = some b := by
  have e1 : (PySem.W.subIn K (.ref J) (.type "BaseException") == some true) = true := by rw [h1] <;> rfl
  have e2 : ((PySem.W.clsIn K J).isSome && PySem.W.typeIn K (.ref J) == some (.type "type")) = true := by
    have h2' : (PySem.W.clsIn K J).isSome = true := h2
    rw [h2', h3] <;> rfl
  show (if (PySem.W.subIn K (.ref J) (.type "BaseException") == some true) = true then (if ((PySem.W.clsIn K J).isSome && PySem.W.typeIn K (.ref J) == some (.type "type")) = true then PySem.W.subIn K (.ref S) (.ref J) else none) else none) = some b
  rw [if_pos e1, if_pos e2]
  exact h4
/-- a call that writes every parameter without a default, one keyword-only tail lacks or is written whole -/
theorem kbp_kw0 {K : PySem.W.Frag} {cl : CT} {x qual : Str} {params : Arguments} {body : List Stmt} {scope : Scope} {kws : List (Str × V)} {f : Addr} {fd : FuncData} {ps : List Str} {dps : List PV} {n : Nat} (F : FunD K x qual params body scope [] kws f fd) (hk : kws ≠ []) (hd : ∀ ρ H, RelPs K ρ H dps (kws.map (·.2))) (hn : n + dps.length = ps.length)
    (h : ∀ (D : Addr) (doc pm : Value) (an : Option Addr) (cdv ct : Value) (us mv : List Value), us.length = n → mv.length = kws.length → KwChain D ((kws.map (·.1)).zip mv) (bindArgs (PySem.W.fnOf x qual params body scope .none (.ref D) doc pm an cdv ct) ⟨us, []⟩) (ps.zip (us ++ mv))) :
    KBp K cl fd ps n [] (fun xs _ => xs ++ dps) := by
  obtain ⟨mv, q⟩ := F.kbinds0 (ps := ps) n [] kws (fun us mv _ => us ++ mv) hk (fun _ h => h) (fun r1 r2 _ => r1.append r2) (fun D doc pm an cdv ct us mv ws l1 l2 l3 => by
    cases ws with
    | nil => exact h D doc pm an cdv ct us mv l1 l2
    | cons _ _ => exact nomatch l3)
  exact ⟨_, _, q, fun ρ H xs vs ys zs l1 l2 r1 r2 => ⟨r1.append (hd ρ H), by rw [List.length_append, l1, hn]⟩⟩
theorem kbp_kwA {K : PySem.W.Frag} {cl : CT} {x qual : Str} {params : Arguments} {body : List Stmt} {scope : Scope} {kws : List (Str × V)} {f : Addr} {fd : FuncData} {ps ks : List Str} {n : Nat} (F : FunD K x qual params body scope [] kws f fd) (hk : kws ≠ []) (hn : n + ks.length = ps.length)
    (h : ∀ (D : Addr) (doc pm : Value) (an : Option Addr) (cdv ct : Value) (us ws : List Value), us.length = n → ws.length = ks.length → bindArgs (PySem.W.fnOf x qual params body scope .none (.ref D) doc pm an cdv ct) ⟨us, ks.zip ws⟩ = pure (ps.zip (us ++ ws))) :
    KBp K cl fd ps n ks (fun xs ys => xs ++ ys) := by
  obtain ⟨mv, q⟩ := F.kbinds0 (ps := ps) n ks [] (fun us mv ws => us ++ ws) hk (fun _ h => nomatch h) (fun r1 _ r3 => r1.append r3) (fun D doc pm an cdv ct us mv ws l1 l2 l3 => h D doc pm an cdv ct us ws l1 l3)
  exact ⟨_, _, q, fun ρ H xs vs ys zs l1 l2 r1 r2 => ⟨r1.append r2, by rw [List.length_append, l1, l2, hn]⟩⟩
theorem kbp_dflt {K : PySem.W.Frag} {cl : CT} {x qual : Str} {params : Arguments} {body : List Stmt} {scope : Scope} {dvs : List V} {f : Addr} {fd : FuncData} {ps : List Str} {dps : List PV} {n : Nat} (j : Nat) (F : FunD K x qual params body scope dvs [] f fd) (hd : dvs ≠ []) (hp : ∀ ρ H, RelPs K ρ H dps (dvs.drop j)) (hn : n + dps.length = ps.length)
    (h : ∀ (T : Addr) (kV doc pm : Value) (an : Option Addr) (cdv ct : Value) (us its : List Value), us.length = n → its.length = dvs.length → ∃ k, bindArgs (PySem.W.fnOf x qual params body scope (.ref T) kV doc pm an cdv ct) ⟨us, []⟩ = seqItems? (.ref T) >>= k ∧ k (some its.toArray) = pure (ps.zip (us ++ its.drop j))) :
    KBp K cl fd ps n [] (fun xs _ => xs ++ dps) := by
  have e := (hp (fun _ => none) (fun _ => none)).length
  rw [List.length_drop] at e
  obtain ⟨ds, r, b⟩ := F.binds1 (ps := ps) n j hd (by omega) h
  exact KBp.dflt b r hp hn
theorem all_nil {α : Type} {P : α → Prop} : ∀ y ∈ ([] : List α), P y := fun _ h => absurd h List.not_mem_nil
theorem all_cons {α : Type} {P : α → Prop} {x : α} {l : List α} (h : P x) (t : ∀ y ∈ l, P y) : ∀ y ∈ x :: l, P y := fun y hy => by
  rcases List.mem_cons.mp hy with e | e
  · rw [e]; exact h
  · exact t y e
theorem tabs_empty {cs : List (Addr × Addr)} {T : List (Addr × Str)} {H : Hp} (hH : ∀ p ∈ cs, H p.2 = some (.tbl #[])) (hm : ∀ p ∈ T, ∃ c, (c, p.1) ∈ cs) : LamX.Tabs T H := fun p hp => by
  obtain ⟨c, hc⟩ := hm p hp
  exact ⟨#[], hH _ hc, by trivial, fun pos cv e => by cases e⟩
theorem kbp_all {K : PySem.W.Frag} {cl : CT} {fd : FuncData} {ps : List Str} {n : Nat} (h : KBp K cl fd ps n [] (fun xs _ => xs ++ [])) : KBp K cl fd ps n [] (fun xs _ => xs) := by
  have e : (fun (xs _ : List PV) => xs ++ []) = fun xs _ => xs := by
    funext xs _
    exact List.append_nil xs
  rw [e] at h
  exact h
end MP
set_option Elab.async false
set_option linter.all false
set_option maxRecDepth 100000
set_option maxHeartbeats 4000000
namespace LW
open PySem PySem.Spec L2 MP
def top (i : Nat) : Stmt := PySem.Challenge.pw_pageclass_k01_systems_and_processes.main.body.getD i (.Pass ⟨0, 0, 0, 0⟩)
abbrev fl_4 : List Str := ["system", "inside", "outside", "dirty", "faults", "swap_outs", "write_backs"]
abbrev fl_5 : List Str := ["row", "index", "locked", "has_crashed", "has_merged", "distances", "touched", "touches", "since", "outs", "backs", "backs_from", "slots", "dirty", "disks"]
abbrev fl_6 : List Str := ["frames", "slots", "strict", "spaces", "objects", "catalogue", "disks", "step", "last_process", "last_object", "last_item", "most_locked", "stack", "memory"]
section
abbrev subT : List ((Nat × Nat) × Bool) := [((0, 0), true), ((0, 1), false), ((0, 2), false), ((0, 3), false), ((1, 0), true), ((1, 1), true), ((1, 2), false), ((1, 3), false), ((2, 0), true), ((2, 1), false), ((2, 2), true), ((2, 3), false), ((3, 0), true), ((3, 1), false), ((3, 2), false), ((3, 3), true)]
abbrev s__law_said : Stmt := (top 43)
abbrev N__law_said : List Str := ["ask", "e"]
abbrev hs__law_said : List HdP := [(1, some 1, sxPair 1 "system" 1 "part"), (2, some 1, sxPair 1 "process" 2 "process"), (0, none, fun _ => (sRet (mTup (mCons (mC (.str "other")) (mCons (mC .non) mNil)))))]
abbrev s_Memory___init__ : Stmt := (inClass (top 14) 0)
abbrev N_Memory___init__ : List Str := ["self", "system"]
def b_Memory___init__ : MS :=
    (sSeq (sFldM 4 "system" (mVar 0) (mVar 1))
    (sSeq (sFldM 4 "inside" (mVar 0) mDict0)
    (sSeq (sFldM 4 "outside" (mVar 0) mDict0)
    (sSeq (sFldM 4 "dirty" (mVar 0) mDict0)
    (sSeq (sFldM 4 "faults" (mVar 0) (mC (.int 0)))
    (sSeq (sFldM 4 "swap_outs" (mVar 0) (mC (.int 0)))
    (sFldM 4 "write_backs" (mVar 0) (mC (.int 0)))))))))
def p_Memory___init__ : List PV → Sto → Res PV := runB 2 b_Memory___init__
def gp_Memory___init__ : List PV → List PV → List PV := fun xs _ => xs
abbrev s_Stack___init__ : Stmt := (inClass (top 21) 0)
abbrev N_Stack___init__ : List Str := ["self"]
def b_Stack___init__ : MS :=
    (sSeq (sFldM 5 "row" (mVar 0) (mLst mNil))
    (sSeq (sFldM 5 "index" (mVar 0) mDict0)
    (sSeq (sFldM 5 "locked" (mVar 0) (mC (.int 0)))
    (sSeq (sFldM 5 "has_crashed" (mVar 0) (mC (.bl false)))
    (sSeq (sFldM 5 "has_merged" (mVar 0) (mC (.bl false)))
    (sSeq (sFldM 5 "distances" (mVar 0) (mLst mNil))
    (sSeq (sFldM 5 "touched" (mVar 0) (mLst mNil))
    (sSeq (sFldM 5 "touches" (mVar 0) (mLst mNil))
    (sSeq (sFldM 5 "since" (mVar 0) mDict0)
    (sSeq (sFldM 5 "outs" (mVar 0) mDict0)
    (sSeq (sFldM 5 "backs" (mVar 0) mDict0)
    (sSeq (sFldM 5 "backs_from" (mVar 0) mDict0)
    (sSeq (sFldM 5 "slots" (mVar 0) (mLst mNil))
    (sSeq (sFldM 5 "dirty" (mVar 0) mDict0)
    (sFldM 5 "disks" (mVar 0) mDict0)))))))))))))))
def p_Stack___init__ : List PV → Sto → Res PV := runB 1 b_Stack___init__
def gp_Stack___init__ : List PV → List PV → List PV := fun xs _ => xs
abbrev s_is_integer : Stmt := (top 16)
abbrev N_is_integer : List Str := ["thing"]
def b_is_integer : MS :=
    (sRet (mAnd (mB gIsi (mCons (mVar 0) (mCons (mC (.ty "int")) mNil))) (mNot (mB gIsi (mCons (mVar 0) (mCons (mC (.ty "bool")) mNil))))))
def p_is_integer : List PV → Sto → Res PV := runB 1 b_is_integer
def gp_is_integer : List PV → List PV → List PV := fun xs _ => xs
abbrev s_is_between : Stmt := (top 17)
abbrev N_is_between : List Str := ["thing", "low", "high"]
def b_is_between : MS :=
    (sRet (mAnd (mCall p_is_integer gp_is_integer (mCons (mVar 0) mNil)) (mChain oLe oLe (mVar 1) (mVar 0) (mVar 2))))
def p_is_between : List PV → Sto → Res PV := runB 3 b_is_between
def gp_is_between : List PV → List PV → List PV := fun xs _ => xs
abbrev s_System___init__ : Stmt := (inClass (top 29) 0)
abbrev N_System___init__ : List Str := ["self", "frames", "slots", "strict"]
def b_System___init__ : MS :=
    (sSeq (sIf (mAndT (mTru (mOp oNotN (mVar 1) (mC .non))) (mNotT (mTru (mCall p_is_between gp_is_between (mCons (mVar 1) (mCons (mC (.int 1)) (mCons (mC (.int 64)) mNil)))))))
    (sRaise1 1 "part" (mC (.str "frames")))
    sSkip)
    (sSeq (sIf (mAndT (mTru (mOp oNotN (mVar 2) (mC .non))) (mNotT (mTru (mCall p_is_between gp_is_between (mCons (mVar 2) (mCons (mC (.int 0)) (mCons (mC (.int 256)) mNil)))))))
    (sRaise1 1 "part" (mC (.str "slots")))
    sSkip)
    (sSeq (sIf (mOrT (mNotT (mTru (mB gIsi (mCons (mVar 3) (mCons (mC (.ty "bool")) mNil))))) (mAndT (mTru (mVar 3)) (mOrT (mTru (mOp oIsN (mVar 1) (mC .non))) (mTru (mOp oIsN (mVar 2) (mC .non))))))
    (sRaise1 1 "part" (mC (.str "strict")))
    sSkip)
    (sSeq (sFldM 6 "frames" (mVar 0) (mVar 1))
    (sSeq (sFldM 6 "slots" (mVar 0) (mVar 2))
    (sSeq (sFldM 6 "strict" (mVar 0) (mVar 3))
    (sSeq (sFldM 6 "spaces" (mVar 0) mDict0)
    (sSeq (sFldM 6 "objects" (mVar 0) mDict0)
    (sSeq (sFldM 6 "catalogue" (mVar 0) mDict0)
    (sSeq (sFldM 6 "disks" (mVar 0) mDict0)
    (sSeq (sFldM 6 "step" (mVar 0) (mC (.int 0)))
    (sSeq (sFldM 6 "last_process" (mVar 0) (mC (.int 0)))
    (sSeq (sFldM 6 "last_object" (mVar 0) (mC (.int 0)))
    (sSeq (sFldM 6 "last_item" (mVar 0) (mC (.int 0)))
    (sSeq (sFldM 6 "most_locked" (mVar 0) (mC (.int 0)))
    (sSeq (sFldM 6 "stack" (mVar 0) (mMake 5 p_Stack___init__ gp_Stack___init__ mNil mNil))
    (sFldM 6 "memory" (mVar 0) (mMake 4 p_Memory___init__ gp_Memory___init__ (mCons (mVar 0) mNil) mNil))))))))))))))))))
def p_System___init__ : List PV → Sto → Res PV := runB 4 b_System___init__
def gp_System___init___k0 : List PV → List PV → List PV := fun xs _ => xs ++ [.non, .non, (.bl false)]
def gp_System___init___kframes_slots_strict : List PV → List PV → List PV := fun xs ys => xs ++ ys
abbrev s__law_draw : Stmt := (top 41)
abbrev N__law_draw : List Str := ["well", "many", "digit", "prime", "number"]
def b__law_draw : MS :=
    (sSeq (sIf (mTru (mOp oGt (mIx (mVar 0) (mC (.int 0))) (mC (.int 0))))
    (sSeq (sSet 2 (mOp oMod (mB gInt (mCons (mIx (mVar 0) (mC (.int 0))) mNil)) (mVar 1)))
    (sSeq (sSetIx (mVar 0) (mC (.int 0)) (mOp oDiv (mIx (mVar 0) (mC (.int 0))) (mVar 1)))
    (sRet (mVar 2))))
    sSkip)
    (sSeq (sSetIx (mVar 0) (mC (.int 2)) (mOp oAdd (mIx (mVar 0) (mC (.int 2))) (mC (.int 1))))
    (sSeq (sSet 3 (mIx (mLst (mCons (mC (.int 2147483647)) (mCons (mC (.int 2147483629)) (mCons (mC (.int 2147483587)) (mCons (mC (.int 2147483579)) (mCons (mC (.int 2147483563)) (mCons (mC (.int 2147483549)) (mCons (mC (.int 2147483543)) mNil)))))))) (mOp oMod (mB gInt (mCons (mIx (mVar 0) (mC (.int 2))) mNil)) (mC (.int 7)))))
    (sSeq (sSet 4 (mOp oMod (mB gInt (mCons (mOp oPow (mOp oAdd (mOp oAdd (mIx (mVar 0) (mC (.int 1))) (mOp oMul (mC (.int 7919)) (mIx (mVar 0) (mC (.int 2))))) (mC (.int 1))) (mC (.int 5))) mNil)) (mVar 3)))
    (sSeq (sSet 4 (mOp oMod (mB gInt (mCons (mOp oMul (mOp oAdd (mVar 4) (mIx (mVar 0) (mC (.int 2)))) (mOp oAdd (mOp oDiv (mVar 4) (mC (.int 1009))) (mC (.int 69621)))) mNil)) (mVar 3)))
    (sRet (mOp oMod (mB gInt (mCons (mOp oDiv (mVar 4) (mC (.int 7))) mNil)) (mVar 1))))))))
def p__law_draw : List PV → Sto → Res PV := runB 5 b__law_draw
def gp__law_draw : List PV → List PV → List PV := fun xs _ => xs
abbrev s__law_one : Stmt := (top 42)
abbrev N__law_one : List Str := ["well", "some"]
def b__law_one : MS :=
    (sRet (mIx (mVar 1) (mCall p__law_draw gp__law_draw (mCons (mVar 0) (mCons (mB gLen (mCons (mVar 1) mNil)) mNil)))))
def p__law_one : List PV → Sto → Res PV := runB 2 b__law_one
def gp__law_one : List PV → List PV → List PV := fun xs _ => xs
abbrev s__law_is_number : Stmt := (top 44)
abbrev N__law_is_number : List Str := ["thing", "low", "high"]
def b__law_is_number : MS :=
    (sRet (mAnd (mB gIsi (mCons (mVar 0) (mCons (mC (.ty "int")) mNil))) (mAnd (mNot (mB gIsi (mCons (mVar 0) (mCons (mC (.ty "bool")) mNil)))) (mChain oLe oLe (mVar 1) (mVar 0) (mVar 2)))))
def p__law_is_number : List PV → Sto → Res PV := runB 3 b__law_is_number
def gp__law_is_number : List PV → List PV → List PV := fun xs _ => xs
abbrev s_now : Stmt := (top 30)
abbrev N_now : List Str := ["system"]
def b_now : MS :=
    (sRet (mFld 6 "step" (mVar 0)))
def p_now : List PV → Sto → Res PV := runB 1 b_now
def gp_now : List PV → List PV → List PV := fun xs _ => xs
abbrev s_processes : Stmt := (top 31)
abbrev N_processes : List Str := ["system"]
def b_processes : MS :=
    (sRet (mB (gOr (gNewL srtL) (gNewL srtD)) (mCons (mFld 6 "spaces" (mVar 0)) mNil)))
def p_processes : List PV → Sto → Res PV := runB 1 b_processes
def gp_processes : List PV → List PV → List PV := fun xs _ => xs
abbrev s__law_system_right : Stmt := (top 45)
abbrev N__law_system_right : List Str := ["well", "one", "two", "three", "bad", "told"]
def b__law_system_right : MS :=
    (sSeq (sSet 1 (mCall p__law_one gp__law_one (mCons (mVar 0) (mCons (mLst (mCons (mC .non) (mCons (mC (.int 1)) (mCons (mC (.int 64)) (mCons (mC (.int 0)) (mCons (mC (.int 65)) (mCons (mNeg (mC (.int 1))) (mCons (mC (.str "4")) (mCons (mOp oEq (mC (.int 1)) (mC (.int 1))) (mCons (mLst mNil) (mCons mDict0 (mCons (mOp oAdd (mC (.int 1)) (mCall p__law_draw gp__law_draw (mCons (mVar 0) (mCons (mC (.int 64)) mNil)))) mNil)))))))))))) mNil))))
    (sSeq (sSet 2 (mCall p__law_one gp__law_one (mCons (mVar 0) (mCons (mLst (mCons (mC .non) (mCons (mC (.int 0)) (mCons (mC (.int 256)) (mCons (mC (.int 257)) (mCons (mNeg (mC (.int 1))) (mCons (mC (.str "4")) (mCons (mOp oEq (mC (.int 1)) (mC (.int 0))) (mCons (mLst mNil) (mCons mDict0 (mCons (mCall p__law_draw gp__law_draw (mCons (mVar 0) (mCons (mC (.int 257)) mNil))) mNil))))))))))) mNil))))
    (sSeq (sSet 3 (mCall p__law_one gp__law_one (mCons (mVar 0) (mCons (mLst (mCons (mOp oEq (mC (.int 1)) (mC (.int 1))) (mCons (mOp oEq (mC (.int 1)) (mC (.int 0))) (mCons (mOp oEq (mC (.int 1)) (mC (.int 0))) (mCons (mC .non) (mCons (mC (.int 0)) (mCons (mC (.int 1)) (mCons (mC (.str "")) (mCons (mLst mNil) (mCons mDict0 mNil)))))))))) mNil))))
    (sSeq (sSet 4 (mLst mNil))
    (sSeq (sIf (mAndT (mTru (mOp oNotN (mVar 1) (mC .non))) (mNotT (mTru (mCall p__law_is_number gp__law_is_number (mCons (mVar 1) (mCons (mC (.int 1)) (mCons (mC (.int 64)) mNil)))))))
    (sExpr (mBM tpL gAppend (mVar 4) (mCons (mC (.str "frames")) mNil)))
    sSkip)
    (sSeq (sIf (mAndT (mTru (mOp oNotN (mVar 2) (mC .non))) (mNotT (mTru (mCall p__law_is_number gp__law_is_number (mCons (mVar 2) (mCons (mC (.int 0)) (mCons (mC (.int 256)) mNil)))))))
    (sExpr (mBM tpL gAppend (mVar 4) (mCons (mC (.str "slots")) mNil)))
    sSkip)
    (sSeq (sIf (mOrT (mNotT (mTru (mB gIsi (mCons (mVar 3) (mCons (mC (.ty "bool")) mNil))))) (mAndT (mTru (mVar 3)) (mOrT (mTru (mOp oIsN (mVar 1) (mC .non))) (mTru (mOp oIsN (mVar 2) (mC .non))))))
    (sExpr (mBM tpL gAppend (mVar 4) (mCons (mC (.str "strict")) mNil)))
    sSkip)
    (sSeq (sSet 5 (mLam (subOf subT) hs__law_said N__law_said.length (mMake 6 p_System___init__ gp_System___init___kframes_slots_strict mNil (mCons (mVar 1) (mCons (mVar 2) (mCons (mVar 3) mNil))))))
    (sSeq (sIf (mTru (mOp oNe (mVar 4) (mLst mNil)))
    (sRet (mOp oEq (mVar 5) (mTup (mCons (mC (.str "system")) (mCons (mIx (mVar 4) (mC (.int 0))) mNil)))))
    sSkip)
    (sRet (mAnd (mOp oEq (mCall p_processes gp_processes (mCons (mVar 5) mNil)) (mLst mNil)) (mOp oEq (mCall p_now gp_now (mCons (mVar 5) mNil)) (mC (.int 0))))))))))))))
def p__law_system_right : List PV → Sto → Res PV := runB 6 b__law_system_right
def gp__law_system_right : List PV → List PV → List PV := fun xs _ => xs
abbrev s__law_well : Stmt := (top 40)
abbrev N__law_well : List Str := ["cell"]
def b__law_well : MS :=
    (sRet (mLst (mCons (mOp oMul (mVar 0) (mB gInt (mCons (mOp oGe (mVar 0) (mOp oPow (mC (.int 10)) (mC (.int 18)))) mNil))) (mCons (mOp oMod (mB gInt (mCons (mVar 0) mNil)) (mC (.int 2147483647))) (mCons (mC (.int 0)) mNil)))))
def p__law_well : List PV → Sto → Res PV := runB 1 b__law_well
def gp__law_well : List PV → List PV → List PV := fun xs _ => xs
abbrev s_Stack_put : Stmt := (inClass (top 21) 3)
abbrev N_Stack_put : List Str := ["self", "at", "item"]
def b_Stack_put : MS :=
    (sSeq (sSetIx (mFld 5 "row" (mVar 0)) (mVar 1) (mVar 2))
    (sIf (mTru (mOp oNotN (mVar 2) (mC .non)))
    sStuck
    sSkip))
def p_Stack_put : List PV → Sto → Res PV := runB 3 b_Stack_put
def gp_Stack_put : List PV → List PV → List PV := fun xs _ => xs
abbrev s_Stack_relock : Stmt := (inClass (top 21) 18)
abbrev N_Stack_relock : List Str := ["self", "locked", "some", "item", "stay", "loose", "new", "end", "row", "at"]
def b_Stack_relock : MS :=
    (sSeq (sLocks (idE (mSl (mFld 5 "row" (mVar 0)) moNone (moSome (mFld 5 "locked" (mVar 0))))) (sSet 2 (mLc (mwE (mSl (mFld 5 "row" (mVar 0)) moNone (moSome (mFld 5 "locked" (mVar 0))))) (gN 3) (mTru (mOp oNotN (mVar 3) (mC .non))) (mVar 3) [3])))
    (sSeq (sLocks (idE (mVar 2)) (sSet 4 (mLc (mwE (mVar 2)) (gN 3) (mTru (mOp (oIn false) mStuck (mVar 1))) (mVar 3) [3])))
    (sSeq (sLocks (idE (mVar 2)) (sSet 5 (mLc (mwE (mVar 2)) (gN 3) (mTru (mOp (oIn true) mStuck (mVar 1))) (mVar 3) [3])))
    (sSeq (sLocks (idE (mSl (mFld 5 "row" (mVar 0)) (moSome (mFld 5 "locked" (mVar 0))) moNone)) (sSet 6 (mLc (mwE (mSl (mFld 5 "row" (mVar 0)) (moSome (mFld 5 "locked" (mVar 0))) moNone)) (gN 3) (mAndT (mTru (mOp oNotN (mVar 3) (mC .non))) (mTru (mOp (oIn false) mStuck (mVar 1)))) (mVar 3) [3])))
    (sSeq (sSet 7 (mOp oAdd (mFld 5 "locked" (mVar 0)) (mB gLen (mCons (mVar 6) mNil))))
    (sSeq (sSet 8 (mOp oAdd (mOp oAdd (mVar 4) (mVar 6)) (mVar 5)))
    (sSeq (sFor (mwR1 (mCons (mVar 7) mNil)) (gN 9)
    (sExpr (mMeth 5 p_Stack_put gp_Stack_put (mVar 0) (mCons (mVar 9) (mCons (mIf (mTru (mOp oLt (mVar 9) (mB gLen (mCons (mVar 8) mNil)))) (mIx (mVar 8) (mVar 9)) (mC .non)) mNil)))))
    (sSeq (sLock (mVar 5) (sFor (mwE (mVar 5)) (gN 3)
    sStuck))
    (sFldM 5 "locked" (mVar 0) (mOp oAdd (mB gLen (mCons (mVar 4) mNil)) (mB gLen (mCons (mVar 6) mNil))))))))))))
def p_Stack_relock : List PV → Sto → Res PV := runB 10 b_Stack_relock
def gp_Stack_relock : List PV → List PV → List PV := fun xs _ => xs
abbrev s_System_locked_items : Stmt := (inClass (top 29) 4)
abbrev N_System_locked_items : List Str := ["self", "pages", "space", "mapped"]
def b_System_locked_items : MS :=
    (sSeq (sLocks (idE2 (mFld 6 "spaces" (mVar 0))) (sSet 1 (mLc2 (mwDict (fun l => l.map (·.2)) (mFld 6 "spaces" (mVar 0))) (gN 2) mtYes (mwDict (fun l => l.map (·.2)) (mVar 2)) (gN 3) (mTru (mOp (oIn false) (mC (.str "lock")) mStuck)) (mVar 3) [2, 3] [3])))
    (sRet (mLock (idE (mVar 1)) (mDc (mwE (mVar 1)) (gN 3) mtYes mStuck (mC (.bl true)) [3]))))
def p_System_locked_items : List PV → Sto → Res PV := runB 4 b_System_locked_items
def gp_System_locked_items : List PV → List PV → List PV := fun xs _ => xs
abbrev s_System_locked_pages : Stmt := (inClass (top 29) 3)
abbrev N_System_locked_pages : List Str := ["self", "space", "mapped"]
def b_System_locked_pages : MS :=
    (sRet (mB (gL1 sumL) (mCons (mLock (idE2 (mFld 6 "spaces" (mVar 0))) (mLc2 (mwDict (fun l => l.map (·.2)) (mFld 6 "spaces" (mVar 0))) (gN 1) mtYes (mwDict (fun l => l.map (·.2)) (mVar 1)) (gN 2) (mTru (mOp (oIn false) (mC (.str "lock")) mStuck)) (mC (.int 1)) [1, 2] [2])) mNil)))
def p_System_locked_pages : List PV → Sto → Res PV := runB 3 b_System_locked_pages
def gp_System_locked_pages : List PV → List PV → List PV := fun xs _ => xs
abbrev s_System_settle : Stmt := (inClass (top 29) 5)
abbrev N_System_settle : List Str := ["self"]
def b_System_settle : MS :=
    (sSeq (sFldM 6 "most_locked" (mVar 0) (mB (gOr gMax2 (gL1 maxL)) (mCons (mFld 6 "most_locked" (mVar 0)) (mCons (mMeth 6 p_System_locked_pages gp_System_locked_pages (mVar 0) mNil) mNil))))
    (sExpr (mMeth 5 p_Stack_relock gp_Stack_relock (mFld 6 "stack" (mVar 0)) (mCons (mMeth 6 p_System_locked_items gp_System_locked_items (mVar 0) mNil) mNil))))
def p_System_settle : List PV → Sto → Res PV := runB 1 b_System_settle
def gp_System_settle : List PV → List PV → List PV := fun xs _ => xs
abbrev s_sorted_pages : Stmt := (top 24)
abbrev N_sorted_pages : List Str := ["space", "page"]
def b_sorted_pages : MS :=
    (sRet (mLc (mwE (mB (gOr (gNewL srtL) (gNewL srtD)) (mCons (mVar 0) mNil))) (gN 1) mtYes (mTup (mCons (mVar 1) (mCons (mIx (mVar 0) (mVar 1)) mNil))) [1]))
def p_sorted_pages : List PV → Sto → Res PV := runB 2 b_sorted_pages
def gp_sorted_pages : List PV → List PV → List PV := fun xs _ => xs
abbrev s_places : Stmt := (top 23)
abbrev N_places : List Str := ["system", "found", "process", "page", "mapped"]
def b_places : MS :=
    (sSeq (sSet 1 (mLst mNil))
    (sSeq (sFor (mwE (mB (gOr (gNewL srtL) (gNewL srtD)) (mCons (mFld 6 "spaces" (mVar 0)) mNil))) (gN 2)
    (sExpr (mBM tpL gExtend (mVar 1) (mCons (mLc (mwE (mCall p_sorted_pages gp_sorted_pages (mCons (mIx (mFld 6 "spaces" (mVar 0)) (mVar 2)) mNil))) (gT 2 (gsCons (gN 3) (gsCons (gN 4) gsNil))) mtYes (mTup (mCons (mTup (mCons (mVar 2) (mCons (mVar 3) mNil))) (mCons (mVar 4) mNil))) [3, 4]) mNil))))
    (sRet (mVar 1))))
def p_places : List PV → Sto → Res PV := runB 5 b_places
def gp_places : List PV → List PV → List PV := fun xs _ => xs
abbrev s_tidy : Stmt := (top 27)
abbrev N_tidy : List Str := ["system", "named", "place", "mapped", "number", "index"]
def b_tidy : MS :=
    (sSeq (sSet 1 mDict0)
    (sSeq (sFor (mwE (mCall p_places gp_places (mCons (mVar 0) mNil))) (gT 2 (gsCons (gN 2) (gsCons (gN 3) gsNil)))
    (sIf (mAndT (mTru (mOp oNotN mStuck (mC .non))) (mTru (mOp oEq (mIx mStuck (mC (.int 0))) (mC (.str "object")))))
    sStuck
    sSkip))
    (sSeq (sFor (mwE (mB (gOr (gNewL lisL) (gOr (gNewL lisD) (gNewL lisT))) (mCons (mFld 6 "objects" (mVar 0)) mNil))) (gN 4)
    (sSeq (sFor (mwE (mB (gOr (gNewL lisL) (gOr (gNewL lisD) (gNewL lisT))) (mCons (mIx (mFld 6 "objects" (mVar 0)) (mVar 4)) mNil))) (gN 5)
    (sIf (mTru (mOp (oIn true) (mVar 5) (mBM tpD gGet2 (mVar 1) (mCons (mVar 4) (mCons mDict0 mNil)))))
    sStuck
    sSkip))
    (sIf (mTru (mOp (oIn true) (mVar 4) (mVar 1)))
    (sDel (mFld 6 "objects" (mVar 0)) (mVar 4))
    sSkip)))
    (sExpr (mMeth 6 p_System_settle gp_System_settle (mVar 0) mNil)))))
def p_tidy : List PV → Sto → Res PV := runB 6 b_tidy
def gp_tidy : List PV → List PV → List PV := fun xs _ => xs
abbrev s_System_done : Stmt := (inClass (top 29) 6)
abbrev N_System_done : List Str := ["self"]
def b_System_done : MS :=
    (sSeq (sExpr (mCall p_tidy gp_tidy (mCons (mVar 0) mNil)))
    (sFldAdd 6 "step" (mVar 0) (mC (.int 1))))
def p_System_done : List PV → Sto → Res PV := runB 1 b_System_done
def gp_System_done : List PV → List PV → List PV := fun xs _ => xs
abbrev s_check_charge : Stmt := (top 12)
abbrev N_check_charge : List Str := ["system", "spaces", "sizes", "after"]
def b_check_charge : MS :=
    (sSeq (sIf (mNotT (mTru (mFld 6 "strict" (mVar 0))))
    sRetN
    sSkip)
    sStuck)
def p_check_charge : List PV → Sto → Res PV := runB 4 b_check_charge
def gp_check_charge_d2 : List PV → List PV → List PV := fun xs _ => xs ++ [.non]
abbrev s_check_process : Stmt := (top 19)
abbrev N_check_process : List Str := ["system", "process"]
def b_check_process : MS :=
    (sIf (mOrT (mNotT (mTru (mCall p_is_integer gp_is_integer (mCons (mVar 1) mNil)))) (mTru (mOp (oIn true) (mVar 1) (mFld 6 "spaces" (mVar 0)))))
    (sRaise1 2 "process" (mVar 1))
    sSkip)
def p_check_process : List PV → Sto → Res PV := runB 2 b_check_process
def gp_check_process : List PV → List PV → List PV := fun xs _ => xs
abbrev s_child_pages : Stmt := (top 34)
abbrev N_child_pages : List Str := ["system", "process", "found", "page", "mapped", "is_wiped"]
def b_child_pages : MS :=
    (sSeq (sSet 2 mDict0)
    (sSeq (sLock (mIx (mFld 6 "spaces" (mVar 0)) (mVar 1)) (sFor (mwDict (fun l => l.map fun p => .tup [p.1, p.2]) (mIx (mFld 6 "spaces" (mVar 0)) (mVar 1))) (gT 2 (gsCons (gN 3) (gsCons (gN 4) gsNil)))
    (sIf (mTru (mOp (oIn true) (mC (.str "stay")) mStuck))
    (sSeq (sSet 5 (mAnd (mNot mStuck) (mOp (oIn false) (mC (.str "wipe")) mStuck)))
    sStuck)
    sSkip)))
    (sRet (mVar 2))))
def p_child_pages : List PV → Sto → Res PV := runB 6 b_child_pages
def gp_child_pages : List PV → List PV → List PV := fun xs _ => xs
abbrev s_new_process : Stmt := (top 32)
abbrev N_new_process : List Str := ["system"]
def b_new_process : MS :=
    (sSeq (sFldAdd 6 "last_process" (mVar 0) (mC (.int 1)))
    (sSeq (sSetIx (mFld 6 "spaces" (mVar 0)) (mFld 6 "last_process" (mVar 0)) mDict0)
    (sRet (mFld 6 "last_process" (mVar 0)))))
def p_new_process : List PV → Sto → Res PV := runB 1 b_new_process
def gp_new_process : List PV → List PV → List PV := fun xs _ => xs
abbrev s_fork : Stmt := (top 35)
abbrev N_fork : List Str := ["system", "process", "pages", "child", "page", "mapped"]
def b_fork : MS :=
    (sSeq (sExpr (mCall p_check_process gp_check_process (mCons (mVar 0) (mCons (mVar 1) mNil))))
    (sSeq (sSet 2 (mCall p_child_pages gp_child_pages (mCons (mVar 0) (mCons (mVar 1) mNil))))
    (sSeq (sExpr (mCall p_check_charge gp_check_charge_d2 (mCons (mVar 0) (mCons (mDstar1 (mFld 6 "spaces" (mVar 0)) (mOp oAdd (mFld 6 "last_process" (mVar 0)) (mC (.int 1))) (mVar 2)) mNil))))
    (sSeq (sSet 3 (mCall p_new_process gp_new_process (mCons (mVar 0) mNil)))
    (sSeq (sSetIx (mFld 6 "spaces" (mVar 0)) (mVar 3) (mVar 2))
    (sSeq (sLock (mVar 2) (sFor (mwDict (fun l => l.map fun p => .tup [p.1, p.2]) (mVar 2)) (gT 2 (gsCons (gN 4) (gsCons (gN 5) gsNil)))
    (sIf (mTru (mOp oNotN mStuck (mC .non)))
    sStuck
    sSkip)))
    (sSeq (sExpr (mMeth 6 p_System_done gp_System_done (mVar 0) mNil))
    (sRet (mVar 3)))))))))
def p_fork : List PV → Sto → Res PV := runB 6 b_fork
def gp_fork : List PV → List PV → List PV := fun xs _ => xs
abbrev s_fresh : Stmt := (top 36)
abbrev N_fresh : List Str := ["system", "process", "page"]
def b_fresh : MS :=
    (sSeq (sExpr (mCall p_check_process gp_check_process (mCons (mVar 0) (mCons (mVar 1) mNil))))
    (sSeq (sFor (mwE (mB (gOr (gNewL lisL) (gOr (gNewL lisD) (gNewL lisT))) (mCons (mIx (mFld 6 "spaces" (mVar 0)) (mVar 1)) mNil))) (gN 2)
    sStuck)
    (sExpr (mMeth 6 p_System_done gp_System_done (mVar 0) mNil))))
def p_fresh : List PV → Sto → Res PV := runB 3 b_fresh
def gp_fresh : List PV → List PV → List PV := fun xs _ => xs
abbrev s_leave : Stmt := (top 37)
abbrev N_leave : List Str := ["system", "process", "page"]
def b_leave : MS :=
    (sSeq (sExpr (mCall p_check_process gp_check_process (mCons (mVar 0) (mCons (mVar 1) mNil))))
    (sSeq (sFor (mwE (mB (gOr (gNewL lisL) (gOr (gNewL lisD) (gNewL lisT))) (mCons (mIx (mFld 6 "spaces" (mVar 0)) (mVar 1)) mNil))) (gN 2)
    sStuck)
    (sSeq (sDel (mFld 6 "spaces" (mVar 0)) (mVar 1))
    (sExpr (mMeth 6 p_System_done gp_System_done (mVar 0) mNil)))))
def p_leave : List PV → Sto → Res PV := runB 3 b_leave
def gp_leave : List PV → List PV → List PV := fun xs _ => xs
abbrev s_spawn : Stmt := (top 33)
abbrev N_spawn : List Str := ["system", "found"]
def b_spawn : MS :=
    (sSeq (sSet 1 (mCall p_new_process gp_new_process (mCons (mVar 0) mNil)))
    (sSeq (sExpr (mMeth 6 p_System_done gp_System_done (mVar 0) mNil))
    (sRet (mVar 1))))
def p_spawn : List PV → Sto → Res PV := runB 2 b_spawn
def gp_spawn : List PV → List PV → List PV := fun xs _ => xs
abbrev s_law : Stmt := (top 46)
abbrev N_law : List Str := ["script", "cell", "well", "turn", "system", "alive", "last", "k", "way", "told", "gone", "odd"]
def b_law : MS :=
    (sSeq (sFor (mwE (mOp oAdd (mSl (mVar 0) moNone (moSome (mC (.int 8)))) (mLst (mCons (mC (.int 0)) (mCons (mC (.int 1)) mNil))))) (gN 1)
    (sSeq (sSet 2 (mCall p__law_well gp__law_well (mCons (mVar 1) mNil)))
    (sSeq (sFor (mwR1 (mCons (mC (.int 3)) mNil)) (gN 3)
    (sIf (mNotT (mTru (mCall p__law_system_right gp__law_system_right (mCons (mVar 2) mNil))))
    (sRet (mC (.bl false)))
    sSkip))
    (sSeq (sSet 4 (mMake 6 p_System___init__ gp_System___init___k0 mNil mNil))
    (sSeq (sSet 5 (mLst mNil))
    (sSeq (sSet 6 (mC (.int 0)))
    (sSeq (sFor (mwR1 (mCons (mOp oAdd (mC (.int 1)) (mCall p__law_draw gp__law_draw (mCons (mVar 2) (mCons (mC (.int 40)) mNil)))) mNil)) (gN 7)
    (sSeq (sSet 8 (mCall p__law_draw gp__law_draw (mCons (mVar 2) (mCons (mC (.int 4)) mNil))))
    (sSeq (sIf (mAndT (mTru (mOp oLt (mVar 8) (mC (.int 2)))) (mTru (mOp oLt (mB gLen (mCons (mVar 5) mNil)) (mC (.int 12)))))
    (sSeq (sSet 6 (mOp oAdd (mVar 6) (mC (.int 1))))
    (sSeq (sSet 9 (mIf (mOrT (mTru (mOp oEq (mVar 5) (mLst mNil))) (mTru (mOp oEq (mVar 8) (mC (.int 0))))) (mCall p_spawn gp_spawn (mCons (mVar 4) mNil)) (mCall p_fork gp_fork (mCons (mVar 4) (mCons (mCall p__law_one gp__law_one (mCons (mVar 2) (mCons (mVar 5) mNil))) mNil)))))
    (sSeq (sExpr (mBM tpL gAppend (mVar 5) (mCons (mVar 6) mNil)))
    (sIf (mTru (mOp oNe (mVar 9) (mVar 6)))
    (sRet (mC (.bl false)))
    sSkip))))
    (sIf (mTru (mOp oNe (mVar 5) (mLst mNil)))
    (sSeq (sSet 10 (mBM tpL gPopAt (mVar 5) (mCons (mCall p__law_draw gp__law_draw (mCons (mVar 2) (mCons (mB gLen (mCons (mVar 5) mNil)) mNil))) mNil)))
    (sExpr (mCall p_leave gp_leave (mCons (mVar 4) (mCons (mVar 10) mNil)))))
    (sSeq (sExpr (mCall p_spawn gp_spawn (mCons (mVar 4) mNil)))
    (sSeq (sSet 6 (mOp oAdd (mVar 6) (mC (.int 1))))
    (sExpr (mBM tpL gAppend (mVar 5) (mCons (mVar 6) mNil)))))))
    (sSeq (sIf (mOrT (mTru (mOp oNe (mCall p_processes gp_processes (mCons (mVar 4) mNil)) (mVar 5))) (mTru (mOp oNe (mCall p_now gp_now (mCons (mVar 4) mNil)) (mOp oAdd (mVar 7) (mC (.int 1))))))
    (sRet (mC (.bl false)))
    sSkip)
    (sExpr (mBM tpL gClear (mCall p_processes gp_processes (mCons (mVar 4) mNil)) mNil))))))
    (sSeq (sSet 11 (mCall p__law_one gp__law_one (mCons (mVar 2) (mCons (mLst (mCons (mC .non) (mCons (mC (.int 0)) (mCons (mNeg (mC (.int 1))) (mCons (mOp oAdd (mVar 6) (mC (.int 1))) (mCons (mC (.str "1")) (mCons (mLst mNil) (mCons mDict0 (mCons (mTup (mCons (mC (.int 1)) mNil)) (mCons (mOp oEq (mC (.int 1)) (mC (.int 1))) (mCons (mOp oEq (mC (.int 1)) (mC (.int 0))) mNil))))))))))) mNil))))
    (sSeq (sIf (mOrT (mTru (mOp oNe (mLam (subOf subT) hs__law_said N__law_said.length (mCall p_fork gp_fork (mCons (mVar 4) (mCons (mVar 11) mNil)))) (mTup (mCons (mC (.str "process")) (mCons (mVar 11) mNil))))) (mTru (mOp oNe (mCall p_processes gp_processes (mCons (mVar 4) mNil)) (mVar 5))))
    (sRet (mC (.bl false)))
    sSkip)
    (sSeq (sIf (mTru (mOp oNe (mLam (subOf subT) hs__law_said N__law_said.length (mCall p_leave gp_leave (mCons (mVar 4) (mCons (mVar 11) mNil)))) (mTup (mCons (mC (.str "process")) (mCons (mVar 11) mNil)))))
    (sRet (mC (.bl false)))
    sSkip)
    (sIf (mOrT (mTru (mOp oNe (mLam (subOf subT) hs__law_said N__law_said.length (mCall p_fresh gp_fresh (mCons (mVar 4) (mCons (mVar 11) mNil)))) (mTup (mCons (mC (.str "process")) (mCons (mVar 11) mNil))))) (mTru (mOp oNe (mCall p_now gp_now (mCons (mVar 4) mNil)) (mOp oAdd (mVar 7) (mC (.int 1))))))
    (sRet (mC (.bl false)))
    sSkip)))))))))))
    (sRet (mC (.bl true))))
def p_law : List PV → Sto → Res PV := runB 12 b_law
end

structure Txt (K : PySem.W.Frag) (mg : Str → Option Value) (cl : CT) : Prop where
  cls4 : Cls K (cl.ad 4)
  at4 : ∀ m ∈ fl_4, NoAttr K (cl.ad 4) m
  fl4 : ∀ m ∈ fl_4, m ∈ cl.fld 4
  cls5 : Cls K (cl.ad 5)
  at5 : ∀ m ∈ fl_5, NoAttr K (cl.ad 5) m
  fl5 : ∀ m ∈ fl_5, m ∈ cl.fld 5
  cls6 : Cls K (cl.ad 6)
  at6 : ∀ m ∈ fl_6, NoAttr K (cl.ad 6) m
  fl6 : ∀ m ∈ fl_6, m ∈ cl.fld 6
  nm0 : mg "PageError" = some (.ref (cl.ad 0))
  nm1 : mg "NoSystem" = some (.ref (cl.ad 1))
  nm2 : mg "NoProcess" = some (.ref (cl.ad 2))
  nm3 : mg "NoCharge" = some (.ref (cl.ad 3))
  xf0 : XfC K (cl.ad 0)
  xf1 : XfC K (cl.ad 1)
  xn1 : PySem.W.findIn K (.ref (cl.ad 1)) "part" = some none
  xf2 : XfC K (cl.ad 2)
  xn2 : PySem.W.findIn K (.ref (cl.ad 2)) "process" = some none
  xf3 : XfC K (cl.ad 3)
  subs : ∀ p ∈ subT, PySem.W.exmOne K (.ref (cl.ad p.1.1)) (.ref (cl.ad p.1.2)) = some p.2
  no_ : ∀ x ∈ (["range", "enumerate", "zip", "len", "int", "abs", "isinstance", "sum", "any", "all", "sorted", "list", "max", "min", "bool", "str", "tuple", "dict"] : List Str), mg x = none
section
variable {P : Program} {w : World} {K : PySem.W.Frag} {mg : Str → Option Value} {base : Heap} {cl : CT}
theorem sc__law_said : FnScope N__law_said ["ask"] (defScope s__law_said) := ⟨rfl, rfl, rfl, by decide +kernel, rfl, by decide +kernel, by decide +kernel⟩
theorem hh__law_said {X : Cx} {x : Str} {g : Addr} {cdv : Value} {s : Shared} {H : Hp} (T : Txt X.K X.mg cl) : HdsX (cxOf C8.CX0 X.prog X.w X.K X.mg X.base N__law_said x (defScope s__law_said) g cdv X.A X.stack s H C8.E0).nox (match defBody s__law_said with | [.Try _ h _ _ _] => h | _ => []) (hdsV X.K cl hs__law_said) :=
  (.as (i := 1) sc__law_said.nd rfl rfl ⟨rfl, by decide, .inl T.nm1⟩ (fun a oe cls d pn hz hf => tx_pair T.xf1 T.xn1 hz hf rfl (by first | exact Or.inl rfl | exact Or.inr (Or.inl rfl) | exact Or.inr (Or.inr rfl) | exact Or.inr rfl | decide))
    (.as (i := 1) sc__law_said.nd rfl rfl ⟨rfl, by decide, .inl T.nm2⟩ (fun a oe cls d pn hz hf => tx_pair T.xf2 T.xn2 hz hf rfl (by first | exact Or.inl rfl | exact Or.inr (Or.inl rfl) | exact Or.inr (Or.inr rfl) | exact Or.inr rfl | decide))
    (.one ⟨rfl, by decide, .inl T.nm0⟩ (fun a oe cls d pn _ _ => tx_plain (ms_one (ms_ret (me_tup (ma_cons me_str (ma_cons me_non ma_nil))))))
    .nil)))
theorem sc_Memory___init__ : FnScope N_Memory___init__ ["self", "system"] (defScope s_Memory___init__) := ⟨rfl, rfl, rfl, by decide +kernel, rfl, by decide +kernel, by decide +kernel⟩
theorem w_Memory___init__ {f : Addr} (T : Txt K mg cl)   : BodyOk P w K mg base cl 0 f N_Memory___init__ "Memory.__init__" (defScope s_Memory___init__) (defBody s_Memory___init__) b_Memory___init__ := by
  intro cdv A outer s H E hr
  delta b_Memory___init__
  exact (ms_cons (ms_fld (c := 4) T.cls4 (T.at4 "system" (by decide +kernel)) (T.fl4 "system" (by decide +kernel)) (me_var 0) (me_var 1))
    (ms_cons (ms_fld (c := 4) T.cls4 (T.at4 "inside" (by decide +kernel)) (T.fl4 "inside" (by decide +kernel)) (me_var 0) me_dict0)
    (ms_cons (ms_fld (c := 4) T.cls4 (T.at4 "outside" (by decide +kernel)) (T.fl4 "outside" (by decide +kernel)) (me_var 0) me_dict0)
    (ms_cons (ms_fld (c := 4) T.cls4 (T.at4 "dirty" (by decide +kernel)) (T.fl4 "dirty" (by decide +kernel)) (me_var 0) me_dict0)
    (ms_cons (ms_fld (c := 4) T.cls4 (T.at4 "faults" (by decide +kernel)) (T.fl4 "faults" (by decide +kernel)) (me_var 0) me_int)
    (ms_cons (ms_fld (c := 4) T.cls4 (T.at4 "swap_outs" (by decide +kernel)) (T.fl4 "swap_outs" (by decide +kernel)) (me_var 0) me_int)
    (ms_one (ms_fld (c := 4) T.cls4 (T.at4 "write_backs" (by decide +kernel)) (T.fl4 "write_backs" (by decide +kernel)) (me_var 0) me_int))))))))
theorem sc_Stack___init__ : FnScope N_Stack___init__ ["self"] (defScope s_Stack___init__) := ⟨rfl, rfl, rfl, by decide +kernel, rfl, by decide +kernel, by decide +kernel⟩
theorem w_Stack___init__ {f : Addr} (T : Txt K mg cl)   : BodyOk P w K mg base cl 0 f N_Stack___init__ "Stack.__init__" (defScope s_Stack___init__) (defBody s_Stack___init__) b_Stack___init__ := by
  intro cdv A outer s H E hr
  delta b_Stack___init__
  exact (ms_cons (ms_fld (c := 5) T.cls5 (T.at5 "row" (by decide +kernel)) (T.fl5 "row" (by decide +kernel)) (me_var 0) (me_lst ma_nil))
    (ms_cons (ms_fld (c := 5) T.cls5 (T.at5 "index" (by decide +kernel)) (T.fl5 "index" (by decide +kernel)) (me_var 0) me_dict0)
    (ms_cons (ms_fld (c := 5) T.cls5 (T.at5 "locked" (by decide +kernel)) (T.fl5 "locked" (by decide +kernel)) (me_var 0) me_int)
    (ms_cons (ms_fld (c := 5) T.cls5 (T.at5 "has_crashed" (by decide +kernel)) (T.fl5 "has_crashed" (by decide +kernel)) (me_var 0) me_bl)
    (ms_cons (ms_fld (c := 5) T.cls5 (T.at5 "has_merged" (by decide +kernel)) (T.fl5 "has_merged" (by decide +kernel)) (me_var 0) me_bl)
    (ms_cons (ms_fld (c := 5) T.cls5 (T.at5 "distances" (by decide +kernel)) (T.fl5 "distances" (by decide +kernel)) (me_var 0) (me_lst ma_nil))
    (ms_cons (ms_fld (c := 5) T.cls5 (T.at5 "touched" (by decide +kernel)) (T.fl5 "touched" (by decide +kernel)) (me_var 0) (me_lst ma_nil))
    (ms_cons (ms_fld (c := 5) T.cls5 (T.at5 "touches" (by decide +kernel)) (T.fl5 "touches" (by decide +kernel)) (me_var 0) (me_lst ma_nil))
    (ms_cons (ms_fld (c := 5) T.cls5 (T.at5 "since" (by decide +kernel)) (T.fl5 "since" (by decide +kernel)) (me_var 0) me_dict0)
    (ms_cons (ms_fld (c := 5) T.cls5 (T.at5 "outs" (by decide +kernel)) (T.fl5 "outs" (by decide +kernel)) (me_var 0) me_dict0)
    (ms_cons (ms_fld (c := 5) T.cls5 (T.at5 "backs" (by decide +kernel)) (T.fl5 "backs" (by decide +kernel)) (me_var 0) me_dict0)
    (ms_cons (ms_fld (c := 5) T.cls5 (T.at5 "backs_from" (by decide +kernel)) (T.fl5 "backs_from" (by decide +kernel)) (me_var 0) me_dict0)
    (ms_cons (ms_fld (c := 5) T.cls5 (T.at5 "slots" (by decide +kernel)) (T.fl5 "slots" (by decide +kernel)) (me_var 0) (me_lst ma_nil))
    (ms_cons (ms_fld (c := 5) T.cls5 (T.at5 "dirty" (by decide +kernel)) (T.fl5 "dirty" (by decide +kernel)) (me_var 0) me_dict0)
    (ms_one (ms_fld (c := 5) T.cls5 (T.at5 "disks" (by decide +kernel)) (T.fl5 "disks" (by decide +kernel)) (me_var 0) me_dict0))))))))))))))))
theorem sc_is_integer : FnScope N_is_integer ["thing"] (defScope s_is_integer) := ⟨rfl, rfl, rfl, by decide +kernel, rfl, by decide +kernel, by decide +kernel⟩
theorem w_is_integer {f : Addr} (T : Txt K mg cl)   : BodyOk P w K mg base cl 0 f N_is_integer "is_integer" (defScope s_is_integer) (defBody s_is_integer) b_is_integer := by
  intro cdv A outer s H E hr
  delta b_is_integer
  exact (ms_one (ms_ret (me_and (me_callB cr_isi (by exact rfl) (T.no_ "isinstance" (by decide +kernel)) (by decide +kernel) (ma_cons (me_var 0) (ma_cons (me_tyn (n := "int") (by exact rfl) (T.no_ "int" (by decide +kernel)) (by decide +kernel)) ma_nil))) (me_one (me_not (me_callB cr_isi (by exact rfl) (T.no_ "isinstance" (by decide +kernel)) (by decide +kernel) (ma_cons (me_var 0) (ma_cons (me_tyn (n := "bool") (by exact rfl) (T.no_ "bool" (by decide +kernel)) (by decide +kernel)) ma_nil))))))))
theorem sc_is_between : FnScope N_is_between ["thing", "low", "high"] (defScope s_is_between) := ⟨rfl, rfl, rfl, by decide +kernel, rfl, by decide +kernel, by decide +kernel⟩
theorem w_is_between {f : Addr} (T : Txt K mg cl) (c_is_integer : CalM P w K mg base cl 1 "is_integer" 1 [] p_is_integer gp_is_integer)  : BodyOk P w K mg base cl 1 f N_is_between "is_between" (defScope s_is_between) (defBody s_is_between) b_is_between := by
  intro cdv A outer s H E hr
  delta b_is_between
  exact (ms_one (ms_ret (me_and (mc_call c_is_integer (hr.mono (by decide)) (by exact rfl) tkD (ma_cons (me_var 0) ma_nil) (len_cons len_nil)) (me_one (me_lele (me_var 1) (me_var 0) (me_var 2))))))
theorem sc_System___init__ : FnScope N_System___init__ ["self", "frames", "slots", "strict"] (defScope s_System___init__) := ⟨rfl, rfl, rfl, by decide +kernel, rfl, by decide +kernel, by decide +kernel⟩
theorem w_System___init__ {f : Addr} (T : Txt K mg cl) (c_Memory___init__ : ClsM P w K mg base cl 1 4 "Memory" 1 [] p_Memory___init__ gp_Memory___init__) (c_Stack___init__ : ClsM P w K mg base cl 1 5 "Stack" 0 [] p_Stack___init__ gp_Stack___init__) (c_is_between : CalM P w K mg base cl 2 "is_between" 3 [] p_is_between gp_is_between) (x_NoSystem : ExM P w K mg base cl 1 "part") : BodyOk P w K mg base cl 2 f N_System___init__ "System.__init__" (defScope s_System___init__) (defBody s_System___init__) b_System___init__ := by
  intro cdv A outer s H E hr
  delta b_System___init__
  exact (ms_cons (ms_if ((mw_and (mt_cmp ow_notN calm_notN (me_var 1) me_non) (mw_and1 (mt_not (mt_of (mc_call c_is_between (hr.mono (by decide)) (by exact rfl) tkD (ma_cons (me_var 1) (ma_cons me_int (ma_cons me_int ma_nil))) (len_cons (len_cons (len_cons len_nil))))))))).pt
    (ms_one (ms_raise1 (by exact rfl) tkD (x_NoSystem.at_ (hr.mono (by decide))) (by exact rfl) T.nm1 me_str))
    ms_nil)
    (ms_cons (ms_if ((mw_and (mt_cmp ow_notN calm_notN (me_var 2) me_non) (mw_and1 (mt_not (mt_of (mc_call c_is_between (hr.mono (by decide)) (by exact rfl) tkD (ma_cons (me_var 2) (ma_cons me_int (ma_cons me_int ma_nil))) (len_cons (len_cons (len_cons len_nil))))))))).pt
    (ms_one (ms_raise1 (by exact rfl) tkD (x_NoSystem.at_ (hr.mono (by decide))) (by exact rfl) T.nm1 me_str))
    ms_nil)
    (ms_cons (ms_if ((mw_or (mt_not (mt_of (me_callB cr_isi (by exact rfl) (T.no_ "isinstance" (by decide +kernel)) (by decide +kernel) (ma_cons (me_var 3) (ma_cons (me_tyn (n := "bool") (by exact rfl) (T.no_ "bool" (by decide +kernel)) (by decide +kernel)) ma_nil))))) (mw_or1 ((mw_and (mt_of (me_var 3)) (mw_and1 ((mw_or (mt_cmp ow_isN calm_isN (me_var 1) me_non) (mw_or1 (mt_cmp ow_isN calm_isN (me_var 2) me_non)))).pt))).pt))).pt
    (ms_one (ms_raise1 (by exact rfl) tkD (x_NoSystem.at_ (hr.mono (by decide))) (by exact rfl) T.nm1 me_str))
    ms_nil)
    (ms_cons (ms_fld (c := 6) T.cls6 (T.at6 "frames" (by decide +kernel)) (T.fl6 "frames" (by decide +kernel)) (me_var 0) (me_var 1))
    (ms_cons (ms_fld (c := 6) T.cls6 (T.at6 "slots" (by decide +kernel)) (T.fl6 "slots" (by decide +kernel)) (me_var 0) (me_var 2))
    (ms_cons (ms_fld (c := 6) T.cls6 (T.at6 "strict" (by decide +kernel)) (T.fl6 "strict" (by decide +kernel)) (me_var 0) (me_var 3))
    (ms_cons (ms_fld (c := 6) T.cls6 (T.at6 "spaces" (by decide +kernel)) (T.fl6 "spaces" (by decide +kernel)) (me_var 0) me_dict0)
    (ms_cons (ms_fld (c := 6) T.cls6 (T.at6 "objects" (by decide +kernel)) (T.fl6 "objects" (by decide +kernel)) (me_var 0) me_dict0)
    (ms_cons (ms_fld (c := 6) T.cls6 (T.at6 "catalogue" (by decide +kernel)) (T.fl6 "catalogue" (by decide +kernel)) (me_var 0) me_dict0)
    (ms_cons (ms_fld (c := 6) T.cls6 (T.at6 "disks" (by decide +kernel)) (T.fl6 "disks" (by decide +kernel)) (me_var 0) me_dict0)
    (ms_cons (ms_fld (c := 6) T.cls6 (T.at6 "step" (by decide +kernel)) (T.fl6 "step" (by decide +kernel)) (me_var 0) me_int)
    (ms_cons (ms_fld (c := 6) T.cls6 (T.at6 "last_process" (by decide +kernel)) (T.fl6 "last_process" (by decide +kernel)) (me_var 0) me_int)
    (ms_cons (ms_fld (c := 6) T.cls6 (T.at6 "last_object" (by decide +kernel)) (T.fl6 "last_object" (by decide +kernel)) (me_var 0) me_int)
    (ms_cons (ms_fld (c := 6) T.cls6 (T.at6 "last_item" (by decide +kernel)) (T.fl6 "last_item" (by decide +kernel)) (me_var 0) me_int)
    (ms_cons (ms_fld (c := 6) T.cls6 (T.at6 "most_locked" (by decide +kernel)) (T.fl6 "most_locked" (by decide +kernel)) (me_var 0) me_int)
    (ms_cons (ms_fld (c := 6) T.cls6 (T.at6 "stack" (by decide +kernel)) (T.fl6 "stack" (by decide +kernel)) (me_var 0) (mc_make0 c_Stack___init__ (hr.mono (by decide)) (by exact rfl) tkD))
    (ms_one (ms_fld (c := 6) T.cls6 (T.at6 "memory" (by decide +kernel)) (T.fl6 "memory" (by decide +kernel)) (me_var 0) (mc_make c_Memory___init__ (hr.mono (by decide)) (by exact rfl) tkD (ma_cons (me_var 0) ma_nil) (len_cons len_nil))))))))))))))))))))
theorem sc__law_draw : FnScope N__law_draw ["well", "many"] (defScope s__law_draw) := ⟨rfl, rfl, rfl, by decide +kernel, rfl, by decide +kernel, by decide +kernel⟩
theorem w__law_draw {f : Addr} (T : Txt K mg cl)   : BodyOk P w K mg base cl 0 f N__law_draw "_law_draw" (defScope s__law_draw) (defBody s__law_draw) b__law_draw := by
  intro cdv A outer s H E hr
  delta b__law_draw
  exact (ms_cons (ms_if (mt_cmp ow_gt calm_II (me_ix (hu_of hr) (me_var 0) me_int) me_int)
    (ms_cons (ms_set (i := 2) sc__law_draw.nd (by exact rfl) (by first | exact Or.inl (by exact rfl) | exact Or.inr rfl) (me_mod (me_callTy cr_int (by exact rfl) (T.no_ "int" (by decide +kernel)) (by decide +kernel) (ma_cons (me_ix (hu_of hr) (me_var 0) me_int) ma_nil)) (me_var 1)))
    (ms_cons (ms_setIx (hu_of hr) (me_var 0) me_int (me_div (me_ix (hu_of hr) (me_var 0) me_int) (me_var 1)))
    (ms_one (ms_ret (me_var 2)))))
    ms_nil)
    (ms_cons (ms_setIx (hu_of hr) (me_var 0) me_int (me_add (me_ix (hu_of hr) (me_var 0) me_int) me_int))
    (ms_cons (ms_set (i := 3) sc__law_draw.nd (by exact rfl) (by first | exact Or.inl (by exact rfl) | exact Or.inr rfl) (me_ix (hu_of hr) (me_lst (ma_cons me_int (ma_cons me_int (ma_cons me_int (ma_cons me_int (ma_cons me_int (ma_cons me_int (ma_cons me_int ma_nil)))))))) (me_mod (me_callTy cr_int (by exact rfl) (T.no_ "int" (by decide +kernel)) (by decide +kernel) (ma_cons (me_ix (hu_of hr) (me_var 0) me_int) ma_nil)) me_int)))
    (ms_cons (ms_set (i := 4) sc__law_draw.nd (by exact rfl) (by first | exact Or.inl (by exact rfl) | exact Or.inr rfl) (me_mod (me_callTy cr_int (by exact rfl) (T.no_ "int" (by decide +kernel)) (by decide +kernel) (ma_cons (me_pow (me_add (me_add (me_ix (hu_of hr) (me_var 0) me_int) (me_mul me_int (me_ix (hu_of hr) (me_var 0) me_int))) me_int) me_int) ma_nil)) (me_var 3)))
    (ms_cons (ms_set (i := 4) sc__law_draw.nd (by exact rfl) (by first | exact Or.inl (by exact rfl) | exact Or.inr rfl) (me_mod (me_callTy cr_int (by exact rfl) (T.no_ "int" (by decide +kernel)) (by decide +kernel) (ma_cons (me_mul (me_add (me_var 4) (me_ix (hu_of hr) (me_var 0) me_int)) (me_add (me_div (me_var 4) me_int) me_int)) ma_nil)) (me_var 3)))
    (ms_one (ms_ret (me_mod (me_callTy cr_int (by exact rfl) (T.no_ "int" (by decide +kernel)) (by decide +kernel) (ma_cons (me_div (me_var 4) me_int) ma_nil)) (me_var 1)))))))))
theorem sc__law_one : FnScope N__law_one ["well", "some"] (defScope s__law_one) := ⟨rfl, rfl, rfl, by decide +kernel, rfl, by decide +kernel, by decide +kernel⟩
theorem w__law_one {f : Addr} (T : Txt K mg cl) (c__law_draw : CalM P w K mg base cl 1 "_law_draw" 2 [] p__law_draw gp__law_draw)  : BodyOk P w K mg base cl 1 f N__law_one "_law_one" (defScope s__law_one) (defBody s__law_one) b__law_one := by
  intro cdv A outer s H E hr
  delta b__law_one
  exact (ms_one (ms_ret (me_ix (hu_of hr) (me_var 1) (mc_call c__law_draw (hr.mono (by decide)) (by exact rfl) tkD (ma_cons (me_var 0) (ma_cons (me_callB cr_len (by exact rfl) (T.no_ "len" (by decide +kernel)) (by decide +kernel) (ma_cons (me_var 1) ma_nil)) ma_nil)) (len_cons (len_cons len_nil))))))
theorem sc__law_is_number : FnScope N__law_is_number ["thing", "low", "high"] (defScope s__law_is_number) := ⟨rfl, rfl, rfl, by decide +kernel, rfl, by decide +kernel, by decide +kernel⟩
theorem w__law_is_number {f : Addr} (T : Txt K mg cl)   : BodyOk P w K mg base cl 0 f N__law_is_number "_law_is_number" (defScope s__law_is_number) (defBody s__law_is_number) b__law_is_number := by
  intro cdv A outer s H E hr
  delta b__law_is_number
  exact (ms_one (ms_ret (me_and (me_callB cr_isi (by exact rfl) (T.no_ "isinstance" (by decide +kernel)) (by decide +kernel) (ma_cons (me_var 0) (ma_cons (me_tyn (n := "int") (by exact rfl) (T.no_ "int" (by decide +kernel)) (by decide +kernel)) ma_nil))) (me_and (me_not (me_callB cr_isi (by exact rfl) (T.no_ "isinstance" (by decide +kernel)) (by decide +kernel) (ma_cons (me_var 0) (ma_cons (me_tyn (n := "bool") (by exact rfl) (T.no_ "bool" (by decide +kernel)) (by decide +kernel)) ma_nil)))) (me_one (me_lele (me_var 1) (me_var 0) (me_var 2)))))))
theorem sc_now : FnScope N_now ["system"] (defScope s_now) := ⟨rfl, rfl, rfl, by decide +kernel, rfl, by decide +kernel, by decide +kernel⟩
theorem w_now {f : Addr} (T : Txt K mg cl)   : BodyOk P w K mg base cl 0 f N_now "now" (defScope s_now) (defBody s_now) b_now := by
  intro cdv A outer s H E hr
  delta b_now
  exact (ms_one (ms_ret (me_fld (c := 6) T.cls6 (T.at6 "step" (by decide +kernel)) (me_var 0))))
theorem sc_processes : FnScope N_processes ["system"] (defScope s_processes) := ⟨rfl, rfl, rfl, by decide +kernel, rfl, by decide +kernel, by decide +kernel⟩
theorem w_processes {f : Addr} (T : Txt K mg cl)   : BodyOk P w K mg base cl 0 f N_processes "processes" (defScope s_processes) (defBody s_processes) b_processes := by
  intro cdv A outer s H E hr
  delta b_processes
  exact (ms_one (ms_ret (me_callB (CR_or cr_srtL (cr_srtD rfl)) (by exact rfl) (T.no_ "sorted" (by decide +kernel)) (by decide +kernel) (ma_cons (me_fld (c := 6) T.cls6 (T.at6 "spaces" (by decide +kernel)) (me_var 0)) ma_nil))))
theorem sc__law_system_right : FnScope N__law_system_right ["well"] (defScope s__law_system_right) := ⟨rfl, rfl, rfl, by decide +kernel, rfl, by decide +kernel, by decide +kernel⟩
theorem w__law_system_right {f : Addr} (T : Txt K mg cl) (c_System___init___kframes_slots_strict : ClsM P w K mg base cl 3 6 "System" 0 ["frames", "slots", "strict"] p_System___init__ gp_System___init___kframes_slots_strict) (c__law_draw : CalM P w K mg base cl 1 "_law_draw" 2 [] p__law_draw gp__law_draw) (c__law_is_number : CalM P w K mg base cl 1 "_law_is_number" 3 [] p__law_is_number gp__law_is_number) (c__law_one : CalM P w K mg base cl 2 "_law_one" 2 [] p__law_one gp__law_one) (c_now : CalM P w K mg base cl 1 "now" 1 [] p_now gp_now) (c_processes : CalM P w K mg base cl 1 "processes" 1 [] p_processes gp_processes)  (said__law_said : SaidM K mg "_law_said" "ask" s__law_said) {c P0 : Addr} (TF : TabF base mg cl c P0 ((("_law_system_right" : Str) ++ (".<locals>." : Str)) ++ ("<lambda>" : Str))) : BodyAt P w K mg base cl 6 f (.ref c) N__law_system_right "_law_system_right" (defScope s__law_system_right) (defBody s__law_system_right) b__law_system_right := by
  intro A outer s H E hr
  delta b__law_system_right
  exact (ms_cons (ms_set (i := 1) sc__law_system_right.nd (by exact rfl) (by first | exact Or.inl (by exact rfl) | exact Or.inr rfl) (mc_call c__law_one (hr.mono (by decide)) (by exact rfl) tkD (ma_cons (me_var 0) (ma_cons (me_lst (ma_cons me_non (ma_cons me_int (ma_cons me_int (ma_cons me_int (ma_cons me_int (ma_cons (me_neg me_int) (ma_cons me_str (ma_cons (me_eq (hr).units me_int me_int) (ma_cons (me_lst ma_nil) (ma_cons me_dict0 (ma_cons (me_add me_int (mc_call c__law_draw (hr.mono (by decide)) (by exact rfl) tkD (ma_cons (me_var 0) (ma_cons me_int ma_nil)) (len_cons (len_cons len_nil)))) ma_nil)))))))))))) ma_nil)) (len_cons (len_cons len_nil))))
    (ms_cons (ms_set (i := 2) sc__law_system_right.nd (by exact rfl) (by first | exact Or.inl (by exact rfl) | exact Or.inr rfl) (mc_call c__law_one (hr.mono (by decide)) (by exact rfl) tkD (ma_cons (me_var 0) (ma_cons (me_lst (ma_cons me_non (ma_cons me_int (ma_cons me_int (ma_cons me_int (ma_cons (me_neg me_int) (ma_cons me_str (ma_cons (me_eq (hr).units me_int me_int) (ma_cons (me_lst ma_nil) (ma_cons me_dict0 (ma_cons (mc_call c__law_draw (hr.mono (by decide)) (by exact rfl) tkD (ma_cons (me_var 0) (ma_cons me_int ma_nil)) (len_cons (len_cons len_nil))) ma_nil))))))))))) ma_nil)) (len_cons (len_cons len_nil))))
    (ms_cons (ms_set (i := 3) sc__law_system_right.nd (by exact rfl) (by first | exact Or.inl (by exact rfl) | exact Or.inr rfl) (mc_call c__law_one (hr.mono (by decide)) (by exact rfl) tkD (ma_cons (me_var 0) (ma_cons (me_lst (ma_cons (me_eq (hr).units me_int me_int) (ma_cons (me_eq (hr).units me_int me_int) (ma_cons (me_eq (hr).units me_int me_int) (ma_cons me_non (ma_cons me_int (ma_cons me_int (ma_cons me_str (ma_cons (me_lst ma_nil) (ma_cons me_dict0 ma_nil)))))))))) ma_nil)) (len_cons (len_cons len_nil))))
    (ms_cons (ms_set (i := 4) sc__law_system_right.nd (by exact rfl) (by first | exact Or.inl (by exact rfl) | exact Or.inr rfl) (me_lst ma_nil))
    (ms_cons (ms_if ((mw_and (mt_cmp ow_notN calm_notN (me_var 1) me_non) (mw_and1 (mt_not (mt_of (mc_call c__law_is_number (hr.mono (by decide)) (by exact rfl) tkD (ma_cons (me_var 1) (ma_cons me_int (ma_cons me_int ma_nil))) (len_cons (len_cons (len_cons len_nil))))))))).pt
    (ms_one (ms_expr (me_bm PySem.F.plainAttrs_list PySem.F.slot_list_append PySem.F.type_list_append ty_list mr_append (me_var 4) (ma_cons me_str ma_nil))))
    ms_nil)
    (ms_cons (ms_if ((mw_and (mt_cmp ow_notN calm_notN (me_var 2) me_non) (mw_and1 (mt_not (mt_of (mc_call c__law_is_number (hr.mono (by decide)) (by exact rfl) tkD (ma_cons (me_var 2) (ma_cons me_int (ma_cons me_int ma_nil))) (len_cons (len_cons (len_cons len_nil))))))))).pt
    (ms_one (ms_expr (me_bm PySem.F.plainAttrs_list PySem.F.slot_list_append PySem.F.type_list_append ty_list mr_append (me_var 4) (ma_cons me_str ma_nil))))
    ms_nil)
    (ms_cons (ms_if ((mw_or (mt_not (mt_of (me_callB cr_isi (by exact rfl) (T.no_ "isinstance" (by decide +kernel)) (by decide +kernel) (ma_cons (me_var 3) (ma_cons (me_tyn (n := "bool") (by exact rfl) (T.no_ "bool" (by decide +kernel)) (by decide +kernel)) ma_nil))))) (mw_or1 ((mw_and (mt_of (me_var 3)) (mw_and1 ((mw_or (mt_cmp ow_isN calm_isN (me_var 1) me_non) (mw_or1 (mt_cmp ow_isN calm_isN (me_var 2) me_non)))).pt))).pt))).pt
    (ms_one (ms_expr (me_bm PySem.F.plainAttrs_list PySem.F.slot_list_append PySem.F.type_list_append ty_list mr_append (me_var 4) (ma_cons me_str ma_nil))))
    ms_nil)
    (ms_cons (ms_set (i := 5) sc__law_system_right.nd (by exact rfl) (by first | exact Or.inl (by exact rfl) | exact Or.inr rfl) (mc_lam (k := 4) said__law_said (by exact rfl) (by rfl) sc__law_said (by rfl) (by first | exact Or.inl (by exact rfl) | exact Or.inr (Or.inl rfl) | exact Or.inr (Or.inr rfl) | exact Or.inr (by exact rfl) | decide) (subOf_ok T.subs) (hs := hs__law_said) (fun g cdv s H => hh__law_said T) (fun f => by rfl) TF (by rfl) (by rfl) (hr.mono (by decide)) (LamX.lamS_by (by show LamX.lamSB (defScope s__law_system_right) _ = true; decide +kernel)) (by rfl) (fun _ _ _ _ _ => by rfl) (fun A outer s H E f c' hr2 => by exact (mc_makeK0 c_System___init___kframes_slots_strict (hr2.mono (by decide)) (by exact rfl) (takes_of (by exact rfl) (by exact rfl) (by exact rfl) rfl) (mk_cons (me_var 1) (mk_cons (me_var 2) (mk_cons (me_var 3) mk_nil))) (len_cons (len_cons (len_cons len_nil)))))))
    (ms_cons (ms_if (mt_cmp (ow_ne (hr).units) calm_ne (me_var 4) (me_lst ma_nil))
    (ms_one (ms_ret (me_eq (hr).units (me_var 5) (me_tup (ma_cons me_str (ma_cons (me_ix (hu_of hr) (me_var 4) me_int) ma_nil))))))
    ms_nil)
    (ms_one (ms_ret (me_and (me_eq (hr).units (mc_call c_processes (hr.mono (by decide)) (by exact rfl) tkD (ma_cons (me_var 5) ma_nil) (len_cons len_nil)) (me_lst ma_nil)) (me_one (me_eq (hr).units (mc_call c_now (hr.mono (by decide)) (by exact rfl) tkD (ma_cons (me_var 5) ma_nil) (len_cons len_nil)) me_int))))))))))))))
theorem sc__law_well : FnScope N__law_well ["cell"] (defScope s__law_well) := ⟨rfl, rfl, rfl, by decide +kernel, rfl, by decide +kernel, by decide +kernel⟩
theorem w__law_well {f : Addr} (T : Txt K mg cl)   : BodyOk P w K mg base cl 0 f N__law_well "_law_well" (defScope s__law_well) (defBody s__law_well) b__law_well := by
  intro cdv A outer s H E hr
  delta b__law_well
  exact (ms_one (ms_ret (me_lst (ma_cons (me_mul (me_var 0) (me_callTy cr_int (by exact rfl) (T.no_ "int" (by decide +kernel)) (by decide +kernel) (ma_cons (me_ge (me_var 0) (me_pow me_int me_int)) ma_nil))) (ma_cons (me_mod (me_callTy cr_int (by exact rfl) (T.no_ "int" (by decide +kernel)) (by decide +kernel) (ma_cons (me_var 0) ma_nil)) me_int) (ma_cons me_int ma_nil))))))
theorem sc_Stack_put : FnScope N_Stack_put ["self", "at", "item"] (defScope s_Stack_put) := ⟨rfl, rfl, rfl, by decide +kernel, rfl, by decide +kernel, by decide +kernel⟩
theorem w_Stack_put {f : Addr} (T : Txt K mg cl)   : BodyOk P w K mg base cl 0 f N_Stack_put "Stack.put" (defScope s_Stack_put) (defBody s_Stack_put) b_Stack_put := by
  intro cdv A outer s H E hr
  delta b_Stack_put
  exact (ms_cons (ms_setIx (hu_of hr) (me_fld (c := 5) T.cls5 (T.at5 "row" (by decide +kernel)) (me_var 0)) (me_var 1) (me_var 2))
    (ms_one (ms_if (mt_cmp ow_notN calm_notN (me_var 2) me_non)
    mss_stuck
    ms_nil)))
theorem sc_Stack_relock : FnScope N_Stack_relock ["self", "locked"] (defScope s_Stack_relock) := ⟨rfl, rfl, rfl, by decide +kernel, rfl, by decide +kernel, by decide +kernel⟩
theorem w_Stack_relock {f : Addr} (T : Txt K mg cl) (c_Stack_put : MetM P w K mg base cl 1 5 "put" 2 p_Stack_put gp_Stack_put)  : BodyOk P w K mg base cl 1 f N_Stack_relock "Stack.relock" (defScope s_Stack_relock) (defBody s_Stack_relock) b_Stack_relock := by
  intro cdv A outer s H E hr
  delta b_Stack_relock
  exact (ms_cons (ms_locks (idE (mSl (mFld 5 "row" (mVar 0)) moNone (moSome (mFld 5 "locked" (mVar 0))))) (ms_setLc (i := 2) (own := [("item", 3)]) (by exact rfl) sc_Stack_relock.nd (by exact rfl) (by exact rfl) (sw_true (by exact rfl) (by exact rfl) (by exact rfl) (by decide +kernel)) (mw_e (me_slice (me_fld (c := 5) T.cls5 (T.at5 "row" (by decide +kernel)) (me_var 0)) mo_none (mo_some (me_fld (c := 5) T.cls5 (T.at5 "locked" (by decide +kernel)) (me_var 0))))) (blkOk_by (N := N_Stack_relock) (by show blkC N_Stack_relock (defScope s_Stack_relock) _ _ = true; decide +kernel)) (fun _ _ _ _ _ => (mg_name (i := 3) sc_Stack_relock.nd (by exact rfl) (by first | exact Or.inl (by exact rfl) | exact Or.inr rfl) (by decide))) (fun _ _ _ _ _ => (mts_one (mt_cmp ow_notN calm_notN (me_var 3) me_non))) (fun _ _ _ _ _ => (me_var 3))))
    (ms_cons (ms_locks (idE (mVar 2)) (ms_setLc (i := 4) (own := [("item", 3)]) (by exact rfl) sc_Stack_relock.nd (by exact rfl) (by exact rfl) (sw_true (by exact rfl) (by exact rfl) (by exact rfl) (by decide +kernel)) (mw_e (me_var 2)) (blkOk_by (N := N_Stack_relock) (by show blkC N_Stack_relock (defScope s_Stack_relock) _ _ = true; decide +kernel)) (fun _ _ _ _ _ => (mg_name (i := 3) sc_Stack_relock.nd (by exact rfl) (by first | exact Or.inl (by exact rfl) | exact Or.inr rfl) (by decide))) (fun _ _ _ _ _ => (mts_one (mt_cmp (ow_in (hr).units) calm_in me_stuck (me_var 1)))) (fun _ _ _ _ _ => (me_var 3))))
    (ms_cons (ms_locks (idE (mVar 2)) (ms_setLc (i := 5) (own := [("item", 3)]) (by exact rfl) sc_Stack_relock.nd (by exact rfl) (by exact rfl) (sw_true (by exact rfl) (by exact rfl) (by exact rfl) (by decide +kernel)) (mw_e (me_var 2)) (blkOk_by (N := N_Stack_relock) (by show blkC N_Stack_relock (defScope s_Stack_relock) _ _ = true; decide +kernel)) (fun _ _ _ _ _ => (mg_name (i := 3) sc_Stack_relock.nd (by exact rfl) (by first | exact Or.inl (by exact rfl) | exact Or.inr rfl) (by decide))) (fun _ _ _ _ _ => (mts_one (mt_cmp (ow_notin (hr).units) calm_in me_stuck (me_var 1)))) (fun _ _ _ _ _ => (me_var 3))))
    (ms_cons (ms_locks (idE (mSl (mFld 5 "row" (mVar 0)) (moSome (mFld 5 "locked" (mVar 0))) moNone)) (ms_setLc (i := 6) (own := [("item", 3)]) (by exact rfl) sc_Stack_relock.nd (by exact rfl) (by exact rfl) (sw_true (by exact rfl) (by exact rfl) (by exact rfl) (by decide +kernel)) (mw_e (me_slice (me_fld (c := 5) T.cls5 (T.at5 "row" (by decide +kernel)) (me_var 0)) (mo_some (me_fld (c := 5) T.cls5 (T.at5 "locked" (by decide +kernel)) (me_var 0))) mo_none)) (blkOk_by (N := N_Stack_relock) (by show blkC N_Stack_relock (defScope s_Stack_relock) _ _ = true; decide +kernel)) (fun _ _ _ _ _ => (mg_name (i := 3) sc_Stack_relock.nd (by exact rfl) (by first | exact Or.inl (by exact rfl) | exact Or.inr rfl) (by decide))) (fun _ _ _ _ _ => (mts_one ((mw_and (mt_cmp ow_notN calm_notN (me_var 3) me_non) (mw_and1 (mt_cmp (ow_in (hr).units) calm_in me_stuck (me_var 1))))).pt)) (fun _ _ _ _ _ => (me_var 3))))
    (ms_cons (ms_set (i := 7) sc_Stack_relock.nd (by exact rfl) (by first | exact Or.inl (by exact rfl) | exact Or.inr rfl) (me_add (me_fld (c := 5) T.cls5 (T.at5 "locked" (by decide +kernel)) (me_var 0)) (me_callB cr_len (by exact rfl) (T.no_ "len" (by decide +kernel)) (by decide +kernel) (ma_cons (me_var 6) ma_nil))))
    (ms_cons (ms_set (i := 8) sc_Stack_relock.nd (by exact rfl) (by first | exact Or.inl (by exact rfl) | exact Or.inr rfl) (me_add (me_add (me_var 4) (me_var 6)) (me_var 5)))
    (ms_cons (ms_for (vs := [9]) poD (by exact rfl) (mw_range1 (by exact rfl) (T.no_ "range" (by decide +kernel)) (ma_cons (me_var 7) ma_nil)) (mg_name (i := 9) sc_Stack_relock.nd (by exact rfl) (by first | exact Or.inl (by exact rfl) | exact Or.inr rfl) (by decide))
    (ms_one (ms_expr (mc_meth c_Stack_put (hr.mono (by decide)) (me_var 0) tkD (ma_cons (me_var 9) (ma_cons (me_if (mt_cmp ow_lt calm_II (me_var 9) (me_callB cr_len (by exact rfl) (T.no_ "len" (by decide +kernel)) (by decide +kernel) (ma_cons (me_var 8) ma_nil))) (me_ix (hu_of hr) (me_var 8) (me_var 9)) me_non) ma_nil)) (len_cons (len_cons len_nil))))))
    (ms_cons (ms_lock (mVar 5) (ms_for (vs := [3]) poD (by exact rfl) (mw_e (me_var 5)) (mg_name (i := 3) sc_Stack_relock.nd (by exact rfl) (by first | exact Or.inl (by exact rfl) | exact Or.inr rfl) (by decide))
    mss_stuck))
    (ms_one (ms_fld (c := 5) T.cls5 (T.at5 "locked" (by decide +kernel)) (T.fl5 "locked" (by decide +kernel)) (me_var 0) (me_add (me_callB cr_len (by exact rfl) (T.no_ "len" (by decide +kernel)) (by decide +kernel) (ma_cons (me_var 4) ma_nil)) (me_callB cr_len (by exact rfl) (T.no_ "len" (by decide +kernel)) (by decide +kernel) (ma_cons (me_var 6) ma_nil)))))))))))))
theorem sc_System_locked_items : FnScope N_System_locked_items ["self"] (defScope s_System_locked_items) := ⟨rfl, rfl, rfl, by decide +kernel, rfl, by decide +kernel, by decide +kernel⟩
theorem w_System_locked_items {f : Addr} (T : Txt K mg cl)   : BodyOk P w K mg base cl 0 f N_System_locked_items "System.locked_items" (defScope s_System_locked_items) (defBody s_System_locked_items) b_System_locked_items := by
  intro cdv A outer s H E hr
  delta b_System_locked_items
  exact (ms_cons (ms_locks (idE2 (mFld 6 "spaces" (mVar 0))) (ms_setLc2 (i := 1) (own := [("space", 2), ("mapped", 3)]) (vs1 := [3]) (by exact rfl) sc_System_locked_items.nd (by exact rfl) (by exact rfl) (sw_true (by exact rfl) (by exact rfl) (by exact rfl) (by decide +kernel)) (mw_values (me_fld (c := 6) T.cls6 (T.at6 "spaces" (by decide +kernel)) (me_var 0))) (blkOk_by (N := N_System_locked_items) (by show blkC N_System_locked_items (defScope s_System_locked_items) _ _ = true; decide +kernel)) (by decide) (fun _ _ _ _ _ => (mg_name (i := 2) sc_System_locked_items.nd (by exact rfl) (by first | exact Or.inl (by exact rfl) | exact Or.inr rfl) (by decide))) (fun _ _ _ _ _ => mts_nil) (fun _ _ _ _ _ => (mw_values (me_var 2))) (fun _ _ _ _ _ => (mg_name (i := 3) sc_System_locked_items.nd (by exact rfl) (by first | exact Or.inl (by exact rfl) | exact Or.inr rfl) (by decide))) (fun _ _ _ _ _ => (mts_one (mt_cmp (ow_in (hr).units) calm_in me_str me_stuck))) (fun _ _ _ _ _ => (me_var 3))))
    (ms_one (ms_ret (me_lock (idE (mVar 1)) (me_dc (own := [("mapped", 3)]) (by exact rfl) sc_System_locked_items.nd (mw_e (me_var 1)) (blkOk_by (N := N_System_locked_items) (by show blkC N_System_locked_items (defScope s_System_locked_items) _ _ = true; decide +kernel)) (fun _ _ _ _ _ => (mg_name (i := 3) sc_System_locked_items.nd (by exact rfl) (by first | exact Or.inl (by exact rfl) | exact Or.inr rfl) (by decide))) (fun _ _ _ _ _ => mts_nil) (fun _ _ _ _ _ => me_stuck) (fun _ _ _ _ _ => me_bl))))))
theorem sc_System_locked_pages : FnScope N_System_locked_pages ["self"] (defScope s_System_locked_pages) := ⟨rfl, rfl, rfl, by decide +kernel, rfl, by decide +kernel, by decide +kernel⟩
theorem w_System_locked_pages {f : Addr} (T : Txt K mg cl)   : BodyOk P w K mg base cl 0 f N_System_locked_pages "System.locked_pages" (defScope s_System_locked_pages) (defBody s_System_locked_pages) b_System_locked_pages := by
  intro cdv A outer s H E hr
  delta b_System_locked_pages
  exact (ms_one (ms_ret (me_callB (cr_sum' rfl) (by exact rfl) (T.no_ "sum" (by decide +kernel)) (by decide +kernel) (ma_cons (me_lock (idE2 (mFld 6 "spaces" (mVar 0))) (me_lc2 (own := [("space", 1), ("mapped", 2)]) (vs1 := [2]) (by exact rfl) sc_System_locked_pages.nd (mw_values (me_fld (c := 6) T.cls6 (T.at6 "spaces" (by decide +kernel)) (me_var 0))) (blkOk_by (N := N_System_locked_pages) (by show blkC N_System_locked_pages (defScope s_System_locked_pages) _ _ = true; decide +kernel)) (by decide) (fun _ _ _ _ _ => (mg_name (i := 1) sc_System_locked_pages.nd (by exact rfl) (by first | exact Or.inl (by exact rfl) | exact Or.inr rfl) (by decide))) (fun _ _ _ _ _ => mts_nil) (fun _ _ _ _ _ => (mw_values (me_var 1))) (fun _ _ _ _ _ => (mg_name (i := 2) sc_System_locked_pages.nd (by exact rfl) (by first | exact Or.inl (by exact rfl) | exact Or.inr rfl) (by decide))) (fun _ _ _ _ _ => (mts_one (mt_cmp (ow_in (hr).units) calm_in me_str me_stuck))) (fun _ _ _ _ _ => me_int))) ma_nil))))
theorem sc_System_settle : FnScope N_System_settle ["self"] (defScope s_System_settle) := ⟨rfl, rfl, rfl, by decide +kernel, rfl, by decide +kernel, by decide +kernel⟩
theorem w_System_settle {f : Addr} (T : Txt K mg cl) (c_Stack_relock : MetM P w K mg base cl 2 5 "relock" 1 p_Stack_relock gp_Stack_relock) (c_System_locked_items : MetM P w K mg base cl 1 6 "locked_items" 0 p_System_locked_items gp_System_locked_items) (c_System_locked_pages : MetM P w K mg base cl 1 6 "locked_pages" 0 p_System_locked_pages gp_System_locked_pages)  : BodyOk P w K mg base cl 2 f N_System_settle "System.settle" (defScope s_System_settle) (defBody s_System_settle) b_System_settle := by
  intro cdv A outer s H E hr
  delta b_System_settle
  exact (ms_cons (ms_fld (c := 6) T.cls6 (T.at6 "most_locked" (by decide +kernel)) (T.fl6 "most_locked" (by decide +kernel)) (me_var 0) (me_callB (CR_or (cr_max2 rfl) (cr_maxL rfl)) (by exact rfl) (T.no_ "max" (by decide +kernel)) (by decide +kernel) (ma_cons (me_fld (c := 6) T.cls6 (T.at6 "most_locked" (by decide +kernel)) (me_var 0)) (ma_cons (mc_meth0 c_System_locked_pages (hr.mono (by decide)) (me_var 0) tkD) ma_nil))))
    (ms_one (ms_expr (mc_meth c_Stack_relock (hr.mono (by decide)) (me_fld (c := 6) T.cls6 (T.at6 "stack" (by decide +kernel)) (me_var 0)) tkD (ma_cons (mc_meth0 c_System_locked_items (hr.mono (by decide)) (me_var 0) tkD) ma_nil) (len_cons len_nil)))))
theorem sc_sorted_pages : FnScope N_sorted_pages ["space"] (defScope s_sorted_pages) := ⟨rfl, rfl, rfl, by decide +kernel, rfl, by decide +kernel, by decide +kernel⟩
theorem w_sorted_pages {f : Addr} (T : Txt K mg cl)   : BodyOk P w K mg base cl 0 f N_sorted_pages "sorted_pages" (defScope s_sorted_pages) (defBody s_sorted_pages) b_sorted_pages := by
  intro cdv A outer s H E hr
  delta b_sorted_pages
  exact (ms_one (ms_ret (me_lc (own := [("page", 1)]) (by exact rfl) sc_sorted_pages.nd (mw_e (me_callB (CR_or cr_srtL (cr_srtD rfl)) (by exact rfl) (T.no_ "sorted" (by decide +kernel)) (by decide +kernel) (ma_cons (me_var 0) ma_nil))) (blkOk_by (N := N_sorted_pages) (by show blkC N_sorted_pages (defScope s_sorted_pages) _ _ = true; decide +kernel)) (fun _ _ _ _ _ => (mg_name (i := 1) sc_sorted_pages.nd (by exact rfl) (by first | exact Or.inl (by exact rfl) | exact Or.inr rfl) (by decide))) (fun _ _ _ _ _ => mts_nil) (fun _ _ _ _ _ => (me_tup (ma_cons (me_var 1) (ma_cons (me_ix (hu_of hr) (me_var 0) (me_var 1)) ma_nil)))))))
theorem sc_places : FnScope N_places ["system"] (defScope s_places) := ⟨rfl, rfl, rfl, by decide +kernel, rfl, by decide +kernel, by decide +kernel⟩
theorem w_places {f : Addr} (T : Txt K mg cl) (c_sorted_pages : CalM P w K mg base cl 1 "sorted_pages" 1 [] p_sorted_pages gp_sorted_pages)  : BodyOk P w K mg base cl 1 f N_places "places" (defScope s_places) (defBody s_places) b_places := by
  intro cdv A outer s H E hr
  delta b_places
  exact (ms_cons (ms_set (i := 1) sc_places.nd (by exact rfl) (by first | exact Or.inl (by exact rfl) | exact Or.inr rfl) (me_lst ma_nil))
    (ms_cons (ms_for (vs := [2]) poD (by exact rfl) (mw_e (me_callB (CR_or cr_srtL (cr_srtD rfl)) (by exact rfl) (T.no_ "sorted" (by decide +kernel)) (by decide +kernel) (ma_cons (me_fld (c := 6) T.cls6 (T.at6 "spaces" (by decide +kernel)) (me_var 0)) ma_nil))) (mg_name (i := 2) sc_places.nd (by exact rfl) (by first | exact Or.inl (by exact rfl) | exact Or.inr rfl) (by decide))
    (ms_one (ms_expr (me_bm PySem.F.plainAttrs_list PySem.F.slot_list_extend PySem.F.type_list_extend ty_list mr_extend (me_var 1) (ma_cons (me_lc (own := [("page", 3), ("mapped", 4)]) (by exact rfl) sc_places.nd (mw_e (mc_call c_sorted_pages (hr.mono (by decide)) (by exact rfl) tkD (ma_cons (me_ix (hu_of hr) (me_fld (c := 6) T.cls6 (T.at6 "spaces" (by decide +kernel)) (me_var 0)) (me_var 2)) ma_nil) (len_cons len_nil))) (blkOk_by (N := N_places) (by show blkC N_places (defScope s_places) _ _ = true; decide +kernel)) (fun _ _ _ _ _ => (mg_tup (by exact rfl) (mgs_cons (mg_name (i := 3) sc_places.nd (by exact rfl) (by first | exact Or.inl (by exact rfl) | exact Or.inr rfl) (by decide)) (mgs_cons (mg_name (i := 4) sc_places.nd (by exact rfl) (by first | exact Or.inl (by exact rfl) | exact Or.inr rfl) (by decide)) mgs_nil)))) (fun _ _ _ _ _ => mts_nil) (fun _ _ _ _ _ => (me_tup (ma_cons (me_tup (ma_cons (me_var 2) (ma_cons (me_var 3) ma_nil))) (ma_cons (me_var 4) ma_nil))))) ma_nil)))))
    (ms_one (ms_ret (me_var 1)))))
theorem sc_tidy : FnScope N_tidy ["system"] (defScope s_tidy) := ⟨rfl, rfl, rfl, by decide +kernel, rfl, by decide +kernel, by decide +kernel⟩
theorem w_tidy {f : Addr} (T : Txt K mg cl) (c_System_settle : MetM P w K mg base cl 3 6 "settle" 0 p_System_settle gp_System_settle) (c_places : CalM P w K mg base cl 2 "places" 1 [] p_places gp_places)  : BodyOk P w K mg base cl 3 f N_tidy "tidy" (defScope s_tidy) (defBody s_tidy) b_tidy := by
  intro cdv A outer s H E hr
  delta b_tidy
  exact (ms_cons (ms_set (i := 1) sc_tidy.nd (by exact rfl) (by first | exact Or.inl (by exact rfl) | exact Or.inr rfl) me_dict0)
    (ms_cons (ms_for (vs := [2, 3]) poD (by exact rfl) (mw_e (mc_call c_places (hr.mono (by decide)) (by exact rfl) tkD (ma_cons (me_var 0) ma_nil) (len_cons len_nil))) (mg_tup (by exact rfl) (mgs_cons (mg_name (i := 2) sc_tidy.nd (by exact rfl) (by first | exact Or.inl (by exact rfl) | exact Or.inr rfl) (by decide)) (mgs_cons (mg_name (i := 3) sc_tidy.nd (by exact rfl) (by first | exact Or.inl (by exact rfl) | exact Or.inr rfl) (by decide)) mgs_nil)))
    (ms_one (ms_if ((mw_and (mt_cmp ow_notN calm_notN me_stuck me_non) (mw_and1 (mt_cmp (ow_eq (hr).units) calm_eq (me_ix (hu_of hr) me_stuck me_int) me_str)))).pt
    mss_stuck
    ms_nil)))
    (ms_cons (ms_for (vs := [4]) poD (by exact rfl) (mw_e (me_callTy (CR_or cr_lisL (CR_or (cr_lisD rfl) (cr_lisT rfl))) (by exact rfl) (T.no_ "list" (by decide +kernel)) (by decide +kernel) (ma_cons (me_fld (c := 6) T.cls6 (T.at6 "objects" (by decide +kernel)) (me_var 0)) ma_nil))) (mg_name (i := 4) sc_tidy.nd (by exact rfl) (by first | exact Or.inl (by exact rfl) | exact Or.inr rfl) (by decide))
    (ms_cons (ms_for (vs := [5]) poD (by exact rfl) (mw_e (me_callTy (CR_or cr_lisL (CR_or (cr_lisD rfl) (cr_lisT rfl))) (by exact rfl) (T.no_ "list" (by decide +kernel)) (by decide +kernel) (ma_cons (me_ix (hu_of hr) (me_fld (c := 6) T.cls6 (T.at6 "objects" (by decide +kernel)) (me_var 0)) (me_var 4)) ma_nil))) (mg_name (i := 5) sc_tidy.nd (by exact rfl) (by first | exact Or.inl (by exact rfl) | exact Or.inr rfl) (by decide))
    (ms_one (ms_if (mt_cmp (ow_notin (hr).units) calm_in (me_var 5) (me_bm PySem.F.plainAttrs_dict PySem.F.slot_dict_get PySem.F.type_dict_get ty_dict (mr_get2 (hu_of hr)) (me_var 1) (ma_cons (me_var 4) (ma_cons me_dict0 ma_nil))))
    mss_stuck
    ms_nil)))
    (ms_one (ms_if (mt_cmp (ow_notin (hr).units) calm_in (me_var 4) (me_var 1))
    (ms_one (ms_del (hu_of hr) (me_fld (c := 6) T.cls6 (T.at6 "objects" (by decide +kernel)) (me_var 0)) (me_var 4)))
    ms_nil))))
    (ms_one (ms_expr (mc_meth0 c_System_settle (hr.mono (by decide)) (me_var 0) tkD))))))
theorem sc_System_done : FnScope N_System_done ["self"] (defScope s_System_done) := ⟨rfl, rfl, rfl, by decide +kernel, rfl, by decide +kernel, by decide +kernel⟩
theorem w_System_done {f : Addr} (T : Txt K mg cl) (c_tidy : CalM P w K mg base cl 4 "tidy" 1 [] p_tidy gp_tidy)  : BodyOk P w K mg base cl 4 f N_System_done "System.done" (defScope s_System_done) (defBody s_System_done) b_System_done := by
  intro cdv A outer s H E hr
  delta b_System_done
  exact (ms_cons (ms_expr (mc_call c_tidy (hr.mono (by decide)) (by exact rfl) tkD (ma_cons (me_var 0) ma_nil) (len_cons len_nil)))
    (ms_one (ms_fldadd (c := 6) T.cls6 (T.at6 "step" (by decide +kernel)) (T.fl6 "step" (by decide +kernel)) (me_var 0) me_int)))
theorem sc_check_charge : FnScope N_check_charge ["system", "spaces", "sizes"] (defScope s_check_charge) := ⟨rfl, rfl, rfl, by decide +kernel, rfl, by decide +kernel, by decide +kernel⟩
theorem w_check_charge {f : Addr} (T : Txt K mg cl)   : BodyOk P w K mg base cl 0 f N_check_charge "check_charge" (defScope s_check_charge) (defBody s_check_charge) b_check_charge := by
  intro cdv A outer s H E hr
  delta b_check_charge
  exact (ms_cons (ms_if (mt_not (mt_of (me_fld (c := 6) T.cls6 (T.at6 "strict" (by decide +kernel)) (me_var 0))))
    (ms_one ms_retN)
    ms_nil)
    mss_stuck)
theorem sc_check_process : FnScope N_check_process ["system", "process"] (defScope s_check_process) := ⟨rfl, rfl, rfl, by decide +kernel, rfl, by decide +kernel, by decide +kernel⟩
theorem w_check_process {f : Addr} (T : Txt K mg cl) (c_is_integer : CalM P w K mg base cl 1 "is_integer" 1 [] p_is_integer gp_is_integer) (x_NoProcess : ExM P w K mg base cl 2 "process") : BodyOk P w K mg base cl 2 f N_check_process "check_process" (defScope s_check_process) (defBody s_check_process) b_check_process := by
  intro cdv A outer s H E hr
  delta b_check_process
  exact (ms_one (ms_if ((mw_or (mt_not (mt_of (mc_call c_is_integer (hr.mono (by decide)) (by exact rfl) tkD (ma_cons (me_var 1) ma_nil) (len_cons len_nil)))) (mw_or1 (mt_cmp (ow_notin (hr).units) calm_in (me_var 1) (me_fld (c := 6) T.cls6 (T.at6 "spaces" (by decide +kernel)) (me_var 0)))))).pt
    (ms_one (ms_raise1 (by exact rfl) tkD (x_NoProcess.at_ (hr.mono (by decide))) (by exact rfl) T.nm2 (me_var 1)))
    ms_nil))
theorem sc_child_pages : FnScope N_child_pages ["system", "process"] (defScope s_child_pages) := ⟨rfl, rfl, rfl, by decide +kernel, rfl, by decide +kernel, by decide +kernel⟩
theorem w_child_pages {f : Addr} (T : Txt K mg cl)   : BodyOk P w K mg base cl 0 f N_child_pages "child_pages" (defScope s_child_pages) (defBody s_child_pages) b_child_pages := by
  intro cdv A outer s H E hr
  delta b_child_pages
  exact (ms_cons (ms_set (i := 2) sc_child_pages.nd (by exact rfl) (by first | exact Or.inl (by exact rfl) | exact Or.inr rfl) me_dict0)
    (ms_cons (ms_lock (mIx (mFld 6 "spaces" (mVar 0)) (mVar 1)) (ms_for (vs := [3, 4]) poD (by exact rfl) (mw_items (me_ix (hu_of hr) (me_fld (c := 6) T.cls6 (T.at6 "spaces" (by decide +kernel)) (me_var 0)) (me_var 1))) (mg_tup (by exact rfl) (mgs_cons (mg_name (i := 3) sc_child_pages.nd (by exact rfl) (by first | exact Or.inl (by exact rfl) | exact Or.inr rfl) (by decide)) (mgs_cons (mg_name (i := 4) sc_child_pages.nd (by exact rfl) (by first | exact Or.inl (by exact rfl) | exact Or.inr rfl) (by decide)) mgs_nil)))
    (ms_one (ms_if (mt_cmp (ow_notin (hr).units) calm_in me_str me_stuck)
    (ms_cons (ms_set (i := 5) sc_child_pages.nd (by exact rfl) (by first | exact Or.inl (by exact rfl) | exact Or.inr rfl) (me_and (me_not me_stuck) (me_one (me_in (hr).units me_str me_stuck))))
    mss_stuck)
    ms_nil))))
    (ms_one (ms_ret (me_var 2)))))
theorem sc_new_process : FnScope N_new_process ["system"] (defScope s_new_process) := ⟨rfl, rfl, rfl, by decide +kernel, rfl, by decide +kernel, by decide +kernel⟩
theorem w_new_process {f : Addr} (T : Txt K mg cl)   : BodyOk P w K mg base cl 0 f N_new_process "new_process" (defScope s_new_process) (defBody s_new_process) b_new_process := by
  intro cdv A outer s H E hr
  delta b_new_process
  exact (ms_cons (ms_fldadd (c := 6) T.cls6 (T.at6 "last_process" (by decide +kernel)) (T.fl6 "last_process" (by decide +kernel)) (me_var 0) me_int)
    (ms_cons (ms_setIx (hu_of hr) (me_fld (c := 6) T.cls6 (T.at6 "spaces" (by decide +kernel)) (me_var 0)) (me_fld (c := 6) T.cls6 (T.at6 "last_process" (by decide +kernel)) (me_var 0)) me_dict0)
    (ms_one (ms_ret (me_fld (c := 6) T.cls6 (T.at6 "last_process" (by decide +kernel)) (me_var 0))))))
theorem sc_fork : FnScope N_fork ["system", "process"] (defScope s_fork) := ⟨rfl, rfl, rfl, by decide +kernel, rfl, by decide +kernel, by decide +kernel⟩
theorem w_fork {f : Addr} (T : Txt K mg cl) (c_System_done : MetM P w K mg base cl 5 6 "done" 0 p_System_done gp_System_done) (c_check_charge_d2 : CalM P w K mg base cl 1 "check_charge" 2 [] p_check_charge gp_check_charge_d2) (c_check_process : CalM P w K mg base cl 3 "check_process" 2 [] p_check_process gp_check_process) (c_child_pages : CalM P w K mg base cl 1 "child_pages" 2 [] p_child_pages gp_child_pages) (c_new_process : CalM P w K mg base cl 1 "new_process" 1 [] p_new_process gp_new_process)  : BodyOk P w K mg base cl 5 f N_fork "fork" (defScope s_fork) (defBody s_fork) b_fork := by
  intro cdv A outer s H E hr
  delta b_fork
  exact (ms_cons (ms_expr (mc_call c_check_process (hr.mono (by decide)) (by exact rfl) tkD (ma_cons (me_var 0) (ma_cons (me_var 1) ma_nil)) (len_cons (len_cons len_nil))))
    (ms_cons (ms_set (i := 2) sc_fork.nd (by exact rfl) (by first | exact Or.inl (by exact rfl) | exact Or.inr rfl) (mc_call c_child_pages (hr.mono (by decide)) (by exact rfl) tkD (ma_cons (me_var 0) (ma_cons (me_var 1) ma_nil)) (len_cons (len_cons len_nil))))
    (ms_cons (ms_expr (mc_call c_check_charge_d2 (hr.mono (by decide)) (by exact rfl) tkD (ma_cons (me_var 0) (ma_cons (me_dstar1 (me_fld (c := 6) T.cls6 (T.at6 "spaces" (by decide +kernel)) (me_var 0)) (me_add (me_fld (c := 6) T.cls6 (T.at6 "last_process" (by decide +kernel)) (me_var 0)) me_int) (me_var 2)) ma_nil)) (len_cons (len_cons len_nil))))
    (ms_cons (ms_set (i := 3) sc_fork.nd (by exact rfl) (by first | exact Or.inl (by exact rfl) | exact Or.inr rfl) (mc_call c_new_process (hr.mono (by decide)) (by exact rfl) tkD (ma_cons (me_var 0) ma_nil) (len_cons len_nil)))
    (ms_cons (ms_setIx (hu_of hr) (me_fld (c := 6) T.cls6 (T.at6 "spaces" (by decide +kernel)) (me_var 0)) (me_var 3) (me_var 2))
    (ms_cons (ms_lock (mVar 2) (ms_for (vs := [4, 5]) poD (by exact rfl) (mw_items (me_var 2)) (mg_tup (by exact rfl) (mgs_cons (mg_name (i := 4) sc_fork.nd (by exact rfl) (by first | exact Or.inl (by exact rfl) | exact Or.inr rfl) (by decide)) (mgs_cons (mg_name (i := 5) sc_fork.nd (by exact rfl) (by first | exact Or.inl (by exact rfl) | exact Or.inr rfl) (by decide)) mgs_nil)))
    (ms_one (ms_if (mt_cmp ow_notN calm_notN me_stuck me_non)
    mss_stuck
    ms_nil))))
    (ms_cons (ms_expr (mc_meth0 c_System_done (hr.mono (by decide)) (me_var 0) tkD))
    (ms_one (ms_ret (me_var 3))))))))))
theorem sc_fresh : FnScope N_fresh ["system", "process"] (defScope s_fresh) := ⟨rfl, rfl, rfl, by decide +kernel, rfl, by decide +kernel, by decide +kernel⟩
theorem w_fresh {f : Addr} (T : Txt K mg cl) (c_System_done : MetM P w K mg base cl 5 6 "done" 0 p_System_done gp_System_done) (c_check_process : CalM P w K mg base cl 3 "check_process" 2 [] p_check_process gp_check_process)  : BodyOk P w K mg base cl 5 f N_fresh "fresh" (defScope s_fresh) (defBody s_fresh) b_fresh := by
  intro cdv A outer s H E hr
  delta b_fresh
  exact (ms_cons (ms_expr (mc_call c_check_process (hr.mono (by decide)) (by exact rfl) tkD (ma_cons (me_var 0) (ma_cons (me_var 1) ma_nil)) (len_cons (len_cons len_nil))))
    (ms_cons (ms_for (vs := [2]) poD (by exact rfl) (mw_e (me_callTy (CR_or cr_lisL (CR_or (cr_lisD rfl) (cr_lisT rfl))) (by exact rfl) (T.no_ "list" (by decide +kernel)) (by decide +kernel) (ma_cons (me_ix (hu_of hr) (me_fld (c := 6) T.cls6 (T.at6 "spaces" (by decide +kernel)) (me_var 0)) (me_var 1)) ma_nil))) (mg_name (i := 2) sc_fresh.nd (by exact rfl) (by first | exact Or.inl (by exact rfl) | exact Or.inr rfl) (by decide))
    mss_stuck)
    (ms_one (ms_expr (mc_meth0 c_System_done (hr.mono (by decide)) (me_var 0) tkD)))))
theorem sc_leave : FnScope N_leave ["system", "process"] (defScope s_leave) := ⟨rfl, rfl, rfl, by decide +kernel, rfl, by decide +kernel, by decide +kernel⟩
theorem w_leave {f : Addr} (T : Txt K mg cl) (c_System_done : MetM P w K mg base cl 5 6 "done" 0 p_System_done gp_System_done) (c_check_process : CalM P w K mg base cl 3 "check_process" 2 [] p_check_process gp_check_process)  : BodyOk P w K mg base cl 5 f N_leave "leave" (defScope s_leave) (defBody s_leave) b_leave := by
  intro cdv A outer s H E hr
  delta b_leave
  exact (ms_cons (ms_expr (mc_call c_check_process (hr.mono (by decide)) (by exact rfl) tkD (ma_cons (me_var 0) (ma_cons (me_var 1) ma_nil)) (len_cons (len_cons len_nil))))
    (ms_cons (ms_for (vs := [2]) poD (by exact rfl) (mw_e (me_callTy (CR_or cr_lisL (CR_or (cr_lisD rfl) (cr_lisT rfl))) (by exact rfl) (T.no_ "list" (by decide +kernel)) (by decide +kernel) (ma_cons (me_ix (hu_of hr) (me_fld (c := 6) T.cls6 (T.at6 "spaces" (by decide +kernel)) (me_var 0)) (me_var 1)) ma_nil))) (mg_name (i := 2) sc_leave.nd (by exact rfl) (by first | exact Or.inl (by exact rfl) | exact Or.inr rfl) (by decide))
    mss_stuck)
    (ms_cons (ms_del (hu_of hr) (me_fld (c := 6) T.cls6 (T.at6 "spaces" (by decide +kernel)) (me_var 0)) (me_var 1))
    (ms_one (ms_expr (mc_meth0 c_System_done (hr.mono (by decide)) (me_var 0) tkD))))))
theorem sc_spawn : FnScope N_spawn ["system"] (defScope s_spawn) := ⟨rfl, rfl, rfl, by decide +kernel, rfl, by decide +kernel, by decide +kernel⟩
theorem w_spawn {f : Addr} (T : Txt K mg cl) (c_System_done : MetM P w K mg base cl 5 6 "done" 0 p_System_done gp_System_done) (c_new_process : CalM P w K mg base cl 1 "new_process" 1 [] p_new_process gp_new_process)  : BodyOk P w K mg base cl 5 f N_spawn "spawn" (defScope s_spawn) (defBody s_spawn) b_spawn := by
  intro cdv A outer s H E hr
  delta b_spawn
  exact (ms_cons (ms_set (i := 1) sc_spawn.nd (by exact rfl) (by first | exact Or.inl (by exact rfl) | exact Or.inr rfl) (mc_call c_new_process (hr.mono (by decide)) (by exact rfl) tkD (ma_cons (me_var 0) ma_nil) (len_cons len_nil)))
    (ms_cons (ms_expr (mc_meth0 c_System_done (hr.mono (by decide)) (me_var 0) tkD))
    (ms_one (ms_ret (me_var 1)))))
theorem sc_law : FnScope N_law ["script"] (defScope s_law) := ⟨rfl, rfl, rfl, by decide +kernel, rfl, by decide +kernel, by decide +kernel⟩
theorem w_law {f : Addr} (T : Txt K mg cl) (c_System___init___k0 : ClsM P w K mg base cl 3 6 "System" 0 [] p_System___init__ gp_System___init___k0) (c__law_draw : CalM P w K mg base cl 1 "_law_draw" 2 [] p__law_draw gp__law_draw) (c__law_one : CalM P w K mg base cl 2 "_law_one" 2 [] p__law_one gp__law_one) (c__law_system_right : CalM P w K mg base cl 7 "_law_system_right" 1 [] p__law_system_right gp__law_system_right) (c__law_well : CalM P w K mg base cl 1 "_law_well" 1 [] p__law_well gp__law_well) (c_fork : CalM P w K mg base cl 6 "fork" 2 [] p_fork gp_fork) (c_fresh : CalM P w K mg base cl 6 "fresh" 2 [] p_fresh gp_fresh) (c_leave : CalM P w K mg base cl 6 "leave" 2 [] p_leave gp_leave) (c_now : CalM P w K mg base cl 1 "now" 1 [] p_now gp_now) (c_processes : CalM P w K mg base cl 1 "processes" 1 [] p_processes gp_processes) (c_spawn : CalM P w K mg base cl 6 "spawn" 1 [] p_spawn gp_spawn)  (said__law_said : SaidM K mg "_law_said" "ask" s__law_said) {c P0 : Addr} (TF : TabF base mg cl c P0 ((("law" : Str) ++ (".<locals>." : Str)) ++ ("<lambda>" : Str))) : BodyAt P w K mg base cl 8 f (.ref c) N_law "law" (defScope s_law) (defBody s_law) b_law := by
  intro A outer s H E hr
  delta b_law
  exact (ms_cons (ms_for (vs := [1]) poD (by exact rfl) (mw_e (me_add (me_slice (me_var 0) mo_none (mo_some me_int)) (me_lst (ma_cons me_int (ma_cons me_int ma_nil))))) (mg_name (i := 1) sc_law.nd (by exact rfl) (by first | exact Or.inl (by exact rfl) | exact Or.inr rfl) (by decide))
    (ms_cons (ms_set (i := 2) sc_law.nd (by exact rfl) (by first | exact Or.inl (by exact rfl) | exact Or.inr rfl) (mc_call c__law_well (hr.mono (by decide)) (by exact rfl) tkD (ma_cons (me_var 1) ma_nil) (len_cons len_nil)))
    (ms_cons (ms_for (vs := [3]) poD (by exact rfl) (mw_range1 (by exact rfl) (T.no_ "range" (by decide +kernel)) (ma_cons me_int ma_nil)) (mg_name (i := 3) sc_law.nd (by exact rfl) (by first | exact Or.inl (by exact rfl) | exact Or.inr rfl) (by decide))
    (ms_one (ms_if (mt_not (mt_of (mc_call c__law_system_right (hr.mono (by decide)) (by exact rfl) tkD (ma_cons (me_var 2) ma_nil) (len_cons len_nil))))
    (ms_one (ms_ret me_bl))
    ms_nil)))
    (ms_cons (ms_set (i := 4) sc_law.nd (by exact rfl) (by first | exact Or.inl (by exact rfl) | exact Or.inr rfl) (mc_make0 c_System___init___k0 (hr.mono (by decide)) (by exact rfl) tkD))
    (ms_cons (ms_set (i := 5) sc_law.nd (by exact rfl) (by first | exact Or.inl (by exact rfl) | exact Or.inr rfl) (me_lst ma_nil))
    (ms_cons (ms_set (i := 6) sc_law.nd (by exact rfl) (by first | exact Or.inl (by exact rfl) | exact Or.inr rfl) me_int)
    (ms_cons (ms_for (vs := [7]) poD (by exact rfl) (mw_range1 (by exact rfl) (T.no_ "range" (by decide +kernel)) (ma_cons (me_add me_int (mc_call c__law_draw (hr.mono (by decide)) (by exact rfl) tkD (ma_cons (me_var 2) (ma_cons me_int ma_nil)) (len_cons (len_cons len_nil)))) ma_nil)) (mg_name (i := 7) sc_law.nd (by exact rfl) (by first | exact Or.inl (by exact rfl) | exact Or.inr rfl) (by decide))
    (ms_cons (ms_set (i := 8) sc_law.nd (by exact rfl) (by first | exact Or.inl (by exact rfl) | exact Or.inr rfl) (mc_call c__law_draw (hr.mono (by decide)) (by exact rfl) tkD (ma_cons (me_var 2) (ma_cons me_int ma_nil)) (len_cons (len_cons len_nil))))
    (ms_cons (ms_if ((mw_and (mt_cmp ow_lt calm_II (me_var 8) me_int) (mw_and1 (mt_cmp ow_lt calm_II (me_callB cr_len (by exact rfl) (T.no_ "len" (by decide +kernel)) (by decide +kernel) (ma_cons (me_var 5) ma_nil)) me_int)))).pt
    (ms_cons (ms_set (i := 6) sc_law.nd (by exact rfl) (by first | exact Or.inl (by exact rfl) | exact Or.inr rfl) (me_add (me_var 6) me_int))
    (ms_cons (ms_set (i := 9) sc_law.nd (by exact rfl) (by first | exact Or.inl (by exact rfl) | exact Or.inr rfl) (me_if ((mw_or (mt_cmp (ow_eq (hr).units) calm_eq (me_var 5) (me_lst ma_nil)) (mw_or1 (mt_cmp (ow_eq (hr).units) calm_eq (me_var 8) me_int)))).pt (mc_call c_spawn (hr.mono (by decide)) (by exact rfl) tkD (ma_cons (me_var 4) ma_nil) (len_cons len_nil)) (mc_call c_fork (hr.mono (by decide)) (by exact rfl) tkD (ma_cons (me_var 4) (ma_cons (mc_call c__law_one (hr.mono (by decide)) (by exact rfl) tkD (ma_cons (me_var 2) (ma_cons (me_var 5) ma_nil)) (len_cons (len_cons len_nil))) ma_nil)) (len_cons (len_cons len_nil)))))
    (ms_cons (ms_expr (me_bm PySem.F.plainAttrs_list PySem.F.slot_list_append PySem.F.type_list_append ty_list mr_append (me_var 5) (ma_cons (me_var 6) ma_nil)))
    (ms_one (ms_if (mt_cmp (ow_ne (hr).units) calm_ne (me_var 9) (me_var 6))
    (ms_one (ms_ret me_bl))
    ms_nil)))))
    (ms_one (ms_if (mt_cmp (ow_ne (hr).units) calm_ne (me_var 5) (me_lst ma_nil))
    (ms_cons (ms_set (i := 10) sc_law.nd (by exact rfl) (by first | exact Or.inl (by exact rfl) | exact Or.inr rfl) (me_bm PySem.F.plainAttrs_list PySem.F.slot_list_pop PySem.F.type_list_pop ty_list mr_popAt (me_var 5) (ma_cons (mc_call c__law_draw (hr.mono (by decide)) (by exact rfl) tkD (ma_cons (me_var 2) (ma_cons (me_callB cr_len (by exact rfl) (T.no_ "len" (by decide +kernel)) (by decide +kernel) (ma_cons (me_var 5) ma_nil)) ma_nil)) (len_cons (len_cons len_nil))) ma_nil)))
    (ms_one (ms_expr (mc_call c_leave (hr.mono (by decide)) (by exact rfl) tkD (ma_cons (me_var 4) (ma_cons (me_var 10) ma_nil)) (len_cons (len_cons len_nil))))))
    (ms_cons (ms_expr (mc_call c_spawn (hr.mono (by decide)) (by exact rfl) tkD (ma_cons (me_var 4) ma_nil) (len_cons len_nil)))
    (ms_cons (ms_set (i := 6) sc_law.nd (by exact rfl) (by first | exact Or.inl (by exact rfl) | exact Or.inr rfl) (me_add (me_var 6) me_int))
    (ms_one (ms_expr (me_bm PySem.F.plainAttrs_list PySem.F.slot_list_append PySem.F.type_list_append ty_list mr_append (me_var 5) (ma_cons (me_var 6) ma_nil)))))))))
    (ms_cons (ms_if ((mw_or (mt_cmp (ow_ne (hr).units) calm_ne (mc_call c_processes (hr.mono (by decide)) (by exact rfl) tkD (ma_cons (me_var 4) ma_nil) (len_cons len_nil)) (me_var 5)) (mw_or1 (mt_cmp (ow_ne (hr).units) calm_ne (mc_call c_now (hr.mono (by decide)) (by exact rfl) tkD (ma_cons (me_var 4) ma_nil) (len_cons len_nil)) (me_add (me_var 7) me_int))))).pt
    (ms_one (ms_ret me_bl))
    ms_nil)
    (ms_one (ms_expr (me_bm0 PySem.F.plainAttrs_list PySem.F.slot_list_clear PySem.F.type_list_clear ty_list mr_clear (mc_call c_processes (hr.mono (by decide)) (by exact rfl) tkD (ma_cons (me_var 4) ma_nil) (len_cons len_nil)))))))))
    (ms_cons (ms_set (i := 11) sc_law.nd (by exact rfl) (by first | exact Or.inl (by exact rfl) | exact Or.inr rfl) (mc_call c__law_one (hr.mono (by decide)) (by exact rfl) tkD (ma_cons (me_var 2) (ma_cons (me_lst (ma_cons me_non (ma_cons me_int (ma_cons (me_neg me_int) (ma_cons (me_add (me_var 6) me_int) (ma_cons me_str (ma_cons (me_lst ma_nil) (ma_cons me_dict0 (ma_cons (me_tup (ma_cons me_int ma_nil)) (ma_cons (me_eq (hr).units me_int me_int) (ma_cons (me_eq (hr).units me_int me_int) ma_nil))))))))))) ma_nil)) (len_cons (len_cons len_nil))))
    (ms_cons (ms_if ((mw_or (mt_cmp (ow_ne (hr).units) calm_ne (mc_lam (k := 6) said__law_said (by exact rfl) (by rfl) sc__law_said (by rfl) (by first | exact Or.inl (by exact rfl) | exact Or.inr (Or.inl rfl) | exact Or.inr (Or.inr rfl) | exact Or.inr (by exact rfl) | decide) (subOf_ok T.subs) (hs := hs__law_said) (fun g cdv s H => hh__law_said T) (fun f => by rfl) TF (by rfl) (by rfl) (hr.mono (by decide)) (LamX.lamS_by (by show LamX.lamSB (defScope s_law) _ = true; decide +kernel)) (by rfl) (fun _ _ _ _ _ => by rfl) (fun A outer s H E f c' hr2 => by exact (mc_call c_fork (hr2.mono (by decide)) (by exact rfl) (takes_of (by exact rfl) (by exact rfl) (by exact rfl) rfl) (ma_cons (me_var 4) (ma_cons (me_var 11) ma_nil)) (len_cons (len_cons len_nil))))) (me_tup (ma_cons me_str (ma_cons (me_var 11) ma_nil)))) (mw_or1 (mt_cmp (ow_ne (hr).units) calm_ne (mc_call c_processes (hr.mono (by decide)) (by exact rfl) tkD (ma_cons (me_var 4) ma_nil) (len_cons len_nil)) (me_var 5))))).pt
    (ms_one (ms_ret me_bl))
    ms_nil)
    (ms_cons (ms_if (mt_cmp (ow_ne (hr).units) calm_ne (mc_lam (k := 6) said__law_said (by exact rfl) (by rfl) sc__law_said (by rfl) (by first | exact Or.inl (by exact rfl) | exact Or.inr (Or.inl rfl) | exact Or.inr (Or.inr rfl) | exact Or.inr (by exact rfl) | decide) (subOf_ok T.subs) (hs := hs__law_said) (fun g cdv s H => hh__law_said T) (fun f => by rfl) TF (by rfl) (by rfl) (hr.mono (by decide)) (LamX.lamS_by (by show LamX.lamSB (defScope s_law) _ = true; decide +kernel)) (by rfl) (fun _ _ _ _ _ => by rfl) (fun A outer s H E f c' hr2 => by exact (mc_call c_leave (hr2.mono (by decide)) (by exact rfl) (takes_of (by exact rfl) (by exact rfl) (by exact rfl) rfl) (ma_cons (me_var 4) (ma_cons (me_var 11) ma_nil)) (len_cons (len_cons len_nil))))) (me_tup (ma_cons me_str (ma_cons (me_var 11) ma_nil))))
    (ms_one (ms_ret me_bl))
    ms_nil)
    (ms_one (ms_if ((mw_or (mt_cmp (ow_ne (hr).units) calm_ne (mc_lam (k := 6) said__law_said (by exact rfl) (by rfl) sc__law_said (by rfl) (by first | exact Or.inl (by exact rfl) | exact Or.inr (Or.inl rfl) | exact Or.inr (Or.inr rfl) | exact Or.inr (by exact rfl) | decide) (subOf_ok T.subs) (hs := hs__law_said) (fun g cdv s H => hh__law_said T) (fun f => by rfl) TF (by rfl) (by rfl) (hr.mono (by decide)) (LamX.lamS_by (by show LamX.lamSB (defScope s_law) _ = true; decide +kernel)) (by rfl) (fun _ _ _ _ _ => by rfl) (fun A outer s H E f c' hr2 => by exact (mc_call c_fresh (hr2.mono (by decide)) (by exact rfl) (takes_of (by exact rfl) (by exact rfl) (by exact rfl) rfl) (ma_cons (me_var 4) (ma_cons (me_var 11) ma_nil)) (len_cons (len_cons len_nil))))) (me_tup (ma_cons me_str (ma_cons (me_var 11) ma_nil)))) (mw_or1 (mt_cmp (ow_ne (hr).units) calm_ne (mc_call c_now (hr.mono (by decide)) (by exact rfl) tkD (ma_cons (me_var 4) ma_nil) (len_cons len_nil)) (me_add (me_var 7) me_int))))).pt
    (ms_one (ms_ret me_bl))
    ms_nil))))))))))))
    (ms_one (ms_ret me_bl)))
end
end LW
set_option Elab.async false
set_option linter.all false
set_option maxRecDepth 100000
set_option maxHeartbeats 4000000
namespace LW
open PySem PySem.Spec L2 MP
abbrev s_NoSystem___init__ : Stmt := (inClass (top 3) 0)
theorem sc_NoSystem___init__ : FnScope ["self", "part"] ["self", "part"] (defScope s_NoSystem___init__) := ⟨rfl, rfl, rfl, by decide +kernel, rfl, by decide +kernel, by decide +kernel⟩
theorem x_NoSystem___init__ {P : Program} {w : World} {K : PySem.W.Frag} {mg : Str → Option Value} {base : Heap} {fI C C0 : Addr} {fd : FuncData} (F : Fun K "__init__" "NoSystem.__init__" s_NoSystem___init__ fI fd) (hm : mg "PageError" = some (.ref C0)) (pi : PIni K C0) (O : OexC K C) (hno : PySem.W.findIn K (.ref C) "part" = some none) :
    FnOk P w K mg base CX0 1 fI fd ["self", "part"] (spXi C "part") := by
  refine F.ok sc_NoSystem___init__ (fun vs H Q E h => ?_) (fun cdv A outer s H vs Q E hr h => ?_)
  · obtain ⟨a, v, rfl, _⟩ := h
    rfl
  · obtain ⟨a, v, rfl, ha, k⟩ := h
    refine ⟨_, pss_cons (ps_expr (pe_pinit (by exact rfl) hm pi (pa_cons (pv 0) (pa_cons pe_str pa_nil)))) (pss_one (ps_ost (pv 0) (pv 1))), ?_⟩
    exact ⟨_, rfl, a, C, _, rfl, by show 1 ≤ 1000; decide, O, ha, _, rfl, _, rfl, a, C, rfl, O, hno, .inl ⟨ha, k⟩⟩
abbrev s_NoProcess___init__ : Stmt := (inClass (top 4) 0)
theorem sc_NoProcess___init__ : FnScope ["self", "process"] ["self", "process"] (defScope s_NoProcess___init__) := ⟨rfl, rfl, rfl, by decide +kernel, rfl, by decide +kernel, by decide +kernel⟩
theorem x_NoProcess___init__ {P : Program} {w : World} {K : PySem.W.Frag} {mg : Str → Option Value} {base : Heap} {fI C C0 : Addr} {fd : FuncData} (F : Fun K "__init__" "NoProcess.__init__" s_NoProcess___init__ fI fd) (hm : mg "PageError" = some (.ref C0)) (pi : PIni K C0) (O : OexC K C) (hno : PySem.W.findIn K (.ref C) "process" = some none) :
    FnOk P w K mg base CX0 1 fI fd ["self", "process"] (spXi C "process") := by
  refine F.ok sc_NoProcess___init__ (fun vs H Q E h => ?_) (fun cdv A outer s H vs Q E hr h => ?_)
  · obtain ⟨a, v, rfl, _⟩ := h
    rfl
  · obtain ⟨a, v, rfl, ha, k⟩ := h
    refine ⟨_, pss_cons (ps_expr (pe_pinit (by exact rfl) hm pi (pa_cons (pv 0) (pa_cons pe_str pa_nil)))) (pss_one (ps_ost (pv 0) (pv 1))), ?_⟩
    exact ⟨_, rfl, a, C, _, rfl, by show 1 ≤ 1000; decide, O, ha, _, rfl, _, rfl, a, C, rfl, O, hno, .inl ⟨ha, k⟩⟩
theorem all_mk {l : PySem.W.OpenLaw} {w : World} {K : PySem.W.Frag} {h : Heap} {mg : Str → Option Value} {fa : Addr} {ts : List Addr} (hp : ∀ ns : List Int, ns.length ≤ 63 → (∀ z ∈ ns, Builtin.Int.intBits z ≤ 1048576) → ∃ s', p_law [.rls (ns.map .int)] ⟨#[]⟩ = .ok (.bl true) s') (X : K.In h) (hT : ∀ P ∈ ts, h.get? P = some (PySem.W.tabObj #[])) (G : h.Ns mainGlobals mg) (hfa : mg "law" = some (.ref fa))
        {A0 : Addr}
    {A1 : Addr}
    {A2 : Addr}
    {A3 : Addr}
    {A4 : Addr}
    {A5 : Addr}
    {A6 : Addr}
    {nm1 q1 : Str} {M1 : Addr} {bs1 bm1 : List Value} {sn1 : List Str} {sub1 : List Value} {ab1 : Bool} {col1 : Option Bool} {dd1 : Option Addr} {m01 m11 m21 m31 m51 : Option Value}
    {nm2 q2 : Str} {M2 : Addr} {bs2 bm2 : List Value} {sn2 : List Str} {sub2 : List Value} {ab2 : Bool} {col2 : Option Bool} {dd2 : Option Addr} {m02 m12 m22 m32 m52 : Option Value}
    {f_NoSystem___init__ : Addr} {od_NoSystem___init__ an_NoSystem___init__ : Option Addr} {sl_NoSystem___init__ : Array (Option Value)} {oc_NoSystem___init__ dc_NoSystem___init__ pm_NoSystem___init__ ct_NoSystem___init__ : Value}
    {cd_NoSystem___init__ : Value}
    {kV_NoSystem___init__ : Value}
    {f_NoProcess___init__ : Addr} {od_NoProcess___init__ an_NoProcess___init__ : Option Addr} {sl_NoProcess___init__ : Array (Option Value)} {oc_NoProcess___init__ dc_NoProcess___init__ pm_NoProcess___init__ ct_NoProcess___init__ : Value}
    {cd_NoProcess___init__ : Value}
    {kV_NoProcess___init__ : Value}
    {f__law_said : Addr} {od__law_said an__law_said : Option Addr} {sl__law_said : Array (Option Value)} {oc__law_said dc__law_said pm__law_said ct__law_said : Value}
    {cd__law_said : Value}
    {kV__law_said : Value}
    {f_Memory___init__ : Addr} {od_Memory___init__ an_Memory___init__ : Option Addr} {sl_Memory___init__ : Array (Option Value)} {oc_Memory___init__ dc_Memory___init__ pm_Memory___init__ ct_Memory___init__ : Value}
    {cd_Memory___init__ : Value}
    {kV_Memory___init__ : Value}
    {f_Stack___init__ : Addr} {od_Stack___init__ an_Stack___init__ : Option Addr} {sl_Stack___init__ : Array (Option Value)} {oc_Stack___init__ dc_Stack___init__ pm_Stack___init__ ct_Stack___init__ : Value}
    {cd_Stack___init__ : Value}
    {kV_Stack___init__ : Value}
    {f_is_integer : Addr} {od_is_integer an_is_integer : Option Addr} {sl_is_integer : Array (Option Value)} {oc_is_integer dc_is_integer pm_is_integer ct_is_integer : Value}
    {cd_is_integer : Value}
    {kV_is_integer : Value}
    {f_is_between : Addr} {od_is_between an_is_between : Option Addr} {sl_is_between : Array (Option Value)} {oc_is_between dc_is_between pm_is_between ct_is_between : Value}
    {cd_is_between : Value}
    {kV_is_between : Value}
    {f_System___init__ : Addr} {od_System___init__ an_System___init__ : Option Addr} {sl_System___init__ : Array (Option Value)} {oc_System___init__ dc_System___init__ pm_System___init__ ct_System___init__ : Value}
    {cd_System___init__ : Value}
    {D_System___init__ : Addr}
    {f__law_draw : Addr} {od__law_draw an__law_draw : Option Addr} {sl__law_draw : Array (Option Value)} {oc__law_draw dc__law_draw pm__law_draw ct__law_draw : Value}
    {cd__law_draw : Value}
    {kV__law_draw : Value}
    {f__law_one : Addr} {od__law_one an__law_one : Option Addr} {sl__law_one : Array (Option Value)} {oc__law_one dc__law_one pm__law_one ct__law_one : Value}
    {cd__law_one : Value}
    {kV__law_one : Value}
    {f__law_is_number : Addr} {od__law_is_number an__law_is_number : Option Addr} {sl__law_is_number : Array (Option Value)} {oc__law_is_number dc__law_is_number pm__law_is_number ct__law_is_number : Value}
    {cd__law_is_number : Value}
    {kV__law_is_number : Value}
    {f_now : Addr} {od_now an_now : Option Addr} {sl_now : Array (Option Value)} {oc_now dc_now pm_now ct_now : Value}
    {cd_now : Value}
    {kV_now : Value}
    {f_processes : Addr} {od_processes an_processes : Option Addr} {sl_processes : Array (Option Value)} {oc_processes dc_processes pm_processes ct_processes : Value}
    {cd_processes : Value}
    {kV_processes : Value}
    {f__law_system_right : Addr} {od__law_system_right an__law_system_right : Option Addr} {sl__law_system_right : Array (Option Value)} {oc__law_system_right dc__law_system_right pm__law_system_right ct__law_system_right : Value}
    {c__law_system_right P__law_system_right : Addr} {us__law_system_right : Array Value} {occ__law_system_right : Value} {odc__law_system_right : Option Addr} {slc__law_system_right : Array (Option Value)}
    {kV__law_system_right : Value}
    {f__law_well : Addr} {od__law_well an__law_well : Option Addr} {sl__law_well : Array (Option Value)} {oc__law_well dc__law_well pm__law_well ct__law_well : Value}
    {cd__law_well : Value}
    {kV__law_well : Value}
    {f_Stack_put : Addr} {od_Stack_put an_Stack_put : Option Addr} {sl_Stack_put : Array (Option Value)} {oc_Stack_put dc_Stack_put pm_Stack_put ct_Stack_put : Value}
    {cd_Stack_put : Value}
    {kV_Stack_put : Value}
    {f_Stack_relock : Addr} {od_Stack_relock an_Stack_relock : Option Addr} {sl_Stack_relock : Array (Option Value)} {oc_Stack_relock dc_Stack_relock pm_Stack_relock ct_Stack_relock : Value}
    {cd_Stack_relock : Value}
    {kV_Stack_relock : Value}
    {f_System_locked_items : Addr} {od_System_locked_items an_System_locked_items : Option Addr} {sl_System_locked_items : Array (Option Value)} {oc_System_locked_items dc_System_locked_items pm_System_locked_items ct_System_locked_items : Value}
    {cd_System_locked_items : Value}
    {kV_System_locked_items : Value}
    {f_System_locked_pages : Addr} {od_System_locked_pages an_System_locked_pages : Option Addr} {sl_System_locked_pages : Array (Option Value)} {oc_System_locked_pages dc_System_locked_pages pm_System_locked_pages ct_System_locked_pages : Value}
    {cd_System_locked_pages : Value}
    {kV_System_locked_pages : Value}
    {f_System_settle : Addr} {od_System_settle an_System_settle : Option Addr} {sl_System_settle : Array (Option Value)} {oc_System_settle dc_System_settle pm_System_settle ct_System_settle : Value}
    {cd_System_settle : Value}
    {kV_System_settle : Value}
    {f_sorted_pages : Addr} {od_sorted_pages an_sorted_pages : Option Addr} {sl_sorted_pages : Array (Option Value)} {oc_sorted_pages dc_sorted_pages pm_sorted_pages ct_sorted_pages : Value}
    {cd_sorted_pages : Value}
    {kV_sorted_pages : Value}
    {f_places : Addr} {od_places an_places : Option Addr} {sl_places : Array (Option Value)} {oc_places dc_places pm_places ct_places : Value}
    {cd_places : Value}
    {kV_places : Value}
    {f_tidy : Addr} {od_tidy an_tidy : Option Addr} {sl_tidy : Array (Option Value)} {oc_tidy dc_tidy pm_tidy ct_tidy : Value}
    {cd_tidy : Value}
    {kV_tidy : Value}
    {f_System_done : Addr} {od_System_done an_System_done : Option Addr} {sl_System_done : Array (Option Value)} {oc_System_done dc_System_done pm_System_done ct_System_done : Value}
    {cd_System_done : Value}
    {kV_System_done : Value}
    {f_check_charge : Addr} {od_check_charge an_check_charge : Option Addr} {sl_check_charge : Array (Option Value)} {oc_check_charge dc_check_charge pm_check_charge ct_check_charge : Value}
    {cd_check_charge : Value}
    {kV_check_charge : Value}
    {T_check_charge : Addr} {ot_check_charge : Value} {odt_check_charge : Option Addr} {nt_check_charge : Nat} {slt_check_charge : Array (Option Value)}
    {f_check_process : Addr} {od_check_process an_check_process : Option Addr} {sl_check_process : Array (Option Value)} {oc_check_process dc_check_process pm_check_process ct_check_process : Value}
    {cd_check_process : Value}
    {kV_check_process : Value}
    {f_child_pages : Addr} {od_child_pages an_child_pages : Option Addr} {sl_child_pages : Array (Option Value)} {oc_child_pages dc_child_pages pm_child_pages ct_child_pages : Value}
    {cd_child_pages : Value}
    {kV_child_pages : Value}
    {f_new_process : Addr} {od_new_process an_new_process : Option Addr} {sl_new_process : Array (Option Value)} {oc_new_process dc_new_process pm_new_process ct_new_process : Value}
    {cd_new_process : Value}
    {kV_new_process : Value}
    {f_fork : Addr} {od_fork an_fork : Option Addr} {sl_fork : Array (Option Value)} {oc_fork dc_fork pm_fork ct_fork : Value}
    {cd_fork : Value}
    {kV_fork : Value}
    {f_fresh : Addr} {od_fresh an_fresh : Option Addr} {sl_fresh : Array (Option Value)} {oc_fresh dc_fresh pm_fresh ct_fresh : Value}
    {cd_fresh : Value}
    {kV_fresh : Value}
    {f_leave : Addr} {od_leave an_leave : Option Addr} {sl_leave : Array (Option Value)} {oc_leave dc_leave pm_leave ct_leave : Value}
    {cd_leave : Value}
    {kV_leave : Value}
    {f_spawn : Addr} {od_spawn an_spawn : Option Addr} {sl_spawn : Array (Option Value)} {oc_spawn dc_spawn pm_spawn ct_spawn : Value}
    {cd_spawn : Value}
    {kV_spawn : Value}
    {f_law : Addr} {od_law an_law : Option Addr} {sl_law : Array (Option Value)} {oc_law dc_law pm_law ct_law : Value}
    {c_law P_law : Addr} {us_law : Array Value} {occ_law : Value} {odc_law : Option Addr} {slc_law : Array (Option Value)}
    {kV_law : Value}
        (aC0 : PySem.W.nsIn K mainGlobals "PageError" = some (some (.ref A0)))
    (kc0 : PySem.W.keepIn K (.ref A0) = true)
    (ga0 : PySem.W.findIn K (.ref A0) "__getattribute__" = some (some (.builtin "BaseException.__getattribute__")))
    (gg0 : PySem.W.findIn K (.ref A0) "__getattr__" = some none)
    (eb0 : PySem.W.subIn K (.ref A0) (.type "BaseException") = some true)
    (hd0 : PySem.W.hasDictIn K A0 = true)
    (ic0 : PySem.W.isClsIn K A0 = true)
    (tc0 : PySem.W.typeIn K (.ref A0) = some (.type "type"))
    (aC1 : PySem.W.nsIn K mainGlobals "NoSystem" = some (some (.ref A1)))
    (kc1 : PySem.W.keepIn K (.ref A1) = true)
    (ga1 : PySem.W.findIn K (.ref A1) "__getattribute__" = some (some (.builtin "BaseException.__getattribute__")))
    (gg1 : PySem.W.findIn K (.ref A1) "__getattr__" = some none)
    (eb1 : PySem.W.subIn K (.ref A1) (.type "BaseException") = some true)
    (hd1 : PySem.W.hasDictIn K A1 = true)
    (ic1 : PySem.W.isClsIn K A1 = true)
    (tc1 : PySem.W.typeIn K (.ref A1) = some (.type "type"))
    (aC2 : PySem.W.nsIn K mainGlobals "NoProcess" = some (some (.ref A2)))
    (kc2 : PySem.W.keepIn K (.ref A2) = true)
    (ga2 : PySem.W.findIn K (.ref A2) "__getattribute__" = some (some (.builtin "BaseException.__getattribute__")))
    (gg2 : PySem.W.findIn K (.ref A2) "__getattr__" = some none)
    (eb2 : PySem.W.subIn K (.ref A2) (.type "BaseException") = some true)
    (hd2 : PySem.W.hasDictIn K A2 = true)
    (ic2 : PySem.W.isClsIn K A2 = true)
    (tc2 : PySem.W.typeIn K (.ref A2) = some (.type "type"))
    (aC3 : PySem.W.nsIn K mainGlobals "NoCharge" = some (some (.ref A3)))
    (kc3 : PySem.W.keepIn K (.ref A3) = true)
    (ga3 : PySem.W.findIn K (.ref A3) "__getattribute__" = some (some (.builtin "BaseException.__getattribute__")))
    (gg3 : PySem.W.findIn K (.ref A3) "__getattr__" = some none)
    (eb3 : PySem.W.subIn K (.ref A3) (.type "BaseException") = some true)
    (hd3 : PySem.W.hasDictIn K A3 = true)
    (ic3 : PySem.W.isClsIn K A3 = true)
    (tc3 : PySem.W.typeIn K (.ref A3) = some (.type "type"))
    (aC4 : PySem.W.nsIn K mainGlobals "Memory" = some (some (.ref A4)))
    (kc4 : PySem.W.keepIn K (.ref A4) = true)
    (pg4 : PySem.W.plainGet K A4 Str.empty = true)
    (hd4 : PySem.W.hasDictIn K A4 = true)
    (po4 : PySem.W.plainOver K A4 = true)
    (sa4 : PySem.W.findIn K (.ref A4) "__setattr__" = some (some (.builtin "object.__setattr__")))
    (mk4 : PySem.W.makesIn K A4 = true)
    (n4_0 : PySem.W.findIn K (.ref A4) "system" = some none)
    (n4_1 : PySem.W.findIn K (.ref A4) "inside" = some none)
    (n4_2 : PySem.W.findIn K (.ref A4) "outside" = some none)
    (n4_3 : PySem.W.findIn K (.ref A4) "dirty" = some none)
    (n4_4 : PySem.W.findIn K (.ref A4) "faults" = some none)
    (n4_5 : PySem.W.findIn K (.ref A4) "swap_outs" = some none)
    (n4_6 : PySem.W.findIn K (.ref A4) "write_backs" = some none)
    (aC5 : PySem.W.nsIn K mainGlobals "Stack" = some (some (.ref A5)))
    (kc5 : PySem.W.keepIn K (.ref A5) = true)
    (pg5 : PySem.W.plainGet K A5 Str.empty = true)
    (hd5 : PySem.W.hasDictIn K A5 = true)
    (po5 : PySem.W.plainOver K A5 = true)
    (sa5 : PySem.W.findIn K (.ref A5) "__setattr__" = some (some (.builtin "object.__setattr__")))
    (mk5 : PySem.W.makesIn K A5 = true)
    (n5_0 : PySem.W.findIn K (.ref A5) "row" = some none)
    (n5_1 : PySem.W.findIn K (.ref A5) "index" = some none)
    (n5_2 : PySem.W.findIn K (.ref A5) "locked" = some none)
    (n5_3 : PySem.W.findIn K (.ref A5) "has_crashed" = some none)
    (n5_4 : PySem.W.findIn K (.ref A5) "has_merged" = some none)
    (n5_5 : PySem.W.findIn K (.ref A5) "distances" = some none)
    (n5_6 : PySem.W.findIn K (.ref A5) "touched" = some none)
    (n5_7 : PySem.W.findIn K (.ref A5) "touches" = some none)
    (n5_8 : PySem.W.findIn K (.ref A5) "since" = some none)
    (n5_9 : PySem.W.findIn K (.ref A5) "outs" = some none)
    (n5_10 : PySem.W.findIn K (.ref A5) "backs" = some none)
    (n5_11 : PySem.W.findIn K (.ref A5) "backs_from" = some none)
    (n5_12 : PySem.W.findIn K (.ref A5) "slots" = some none)
    (n5_13 : PySem.W.findIn K (.ref A5) "dirty" = some none)
    (n5_14 : PySem.W.findIn K (.ref A5) "disks" = some none)
    (aC6 : PySem.W.nsIn K mainGlobals "System" = some (some (.ref A6)))
    (kc6 : PySem.W.keepIn K (.ref A6) = true)
    (pg6 : PySem.W.plainGet K A6 Str.empty = true)
    (hd6 : PySem.W.hasDictIn K A6 = true)
    (po6 : PySem.W.plainOver K A6 = true)
    (sa6 : PySem.W.findIn K (.ref A6) "__setattr__" = some (some (.builtin "object.__setattr__")))
    (mk6 : PySem.W.makesIn K A6 = true)
    (n6_0 : PySem.W.findIn K (.ref A6) "frames" = some none)
    (n6_1 : PySem.W.findIn K (.ref A6) "slots" = some none)
    (n6_2 : PySem.W.findIn K (.ref A6) "strict" = some none)
    (n6_3 : PySem.W.findIn K (.ref A6) "spaces" = some none)
    (n6_4 : PySem.W.findIn K (.ref A6) "objects" = some none)
    (n6_5 : PySem.W.findIn K (.ref A6) "catalogue" = some none)
    (n6_6 : PySem.W.findIn K (.ref A6) "disks" = some none)
    (n6_7 : PySem.W.findIn K (.ref A6) "step" = some none)
    (n6_8 : PySem.W.findIn K (.ref A6) "last_process" = some none)
    (n6_9 : PySem.W.findIn K (.ref A6) "last_object" = some none)
    (n6_10 : PySem.W.findIn K (.ref A6) "last_item" = some none)
    (n6_11 : PySem.W.findIn K (.ref A6) "most_locked" = some none)
    (n6_12 : PySem.W.findIn K (.ref A6) "stack" = some none)
    (n6_13 : PySem.W.findIn K (.ref A6) "memory" = some none)
    (ss0_0 : PySem.W.subIn K (.ref A0) (.ref A0) = some true)
    (ss0_1 : PySem.W.subIn K (.ref A0) (.ref A1) = some false)
    (ss0_2 : PySem.W.subIn K (.ref A0) (.ref A2) = some false)
    (ss0_3 : PySem.W.subIn K (.ref A0) (.ref A3) = some false)
    (ss1_0 : PySem.W.subIn K (.ref A1) (.ref A0) = some true)
    (ss1_1 : PySem.W.subIn K (.ref A1) (.ref A1) = some true)
    (ss1_2 : PySem.W.subIn K (.ref A1) (.ref A2) = some false)
    (ss1_3 : PySem.W.subIn K (.ref A1) (.ref A3) = some false)
    (ss2_0 : PySem.W.subIn K (.ref A2) (.ref A0) = some true)
    (ss2_1 : PySem.W.subIn K (.ref A2) (.ref A1) = some false)
    (ss2_2 : PySem.W.subIn K (.ref A2) (.ref A2) = some true)
    (ss2_3 : PySem.W.subIn K (.ref A2) (.ref A3) = some false)
    (ss3_0 : PySem.W.subIn K (.ref A3) (.ref A0) = some true)
    (ss3_1 : PySem.W.subIn K (.ref A3) (.ref A1) = some false)
    (ss3_2 : PySem.W.subIn K (.ref A3) (.ref A2) = some false)
    (ss3_3 : PySem.W.subIn K (.ref A3) (.ref A3) = some true)
    (xn1 : PySem.W.findIn K (.ref A1) "part" = some none)
    (xl1 : K.lookup A1 = some (excClassObj nm1 q1 A1 M1 bs1 bm1 true sn1 sub1 ab1 col1 dd1 m01 m11 m21 m31 m51 "ValueError.__new__"))
    (xb1 : PySem.HandSPX.refsVE bm1 = true)
    (sa1 : PySem.W.findIn K (.ref A1) "__setattr__" = some (some (.builtin "object.__setattr__")))
    (xn2 : PySem.W.findIn K (.ref A2) "process" = some none)
    (xl2 : K.lookup A2 = some (excClassObj nm2 q2 A2 M2 bs2 bm2 true sn2 sub2 ab2 col2 dd2 m02 m12 m22 m32 m52 "ValueError.__new__"))
    (xb2 : PySem.HandSPX.refsVE bm2 = true)
    (sa2 : PySem.W.findIn K (.ref A2) "__setattr__" = some (some (.builtin "object.__setattr__")))
    (bg0 : PySem.W.specialIn K (.ref A0) "__getattribute__" = some (some (.builtin "type.__getattribute__")))
    (br0 : PySem.W.readsIn K A0 (.type "type") = true)
    (be0 : PySem.W.findCls K (.ref A0) (.type "type") "__init__" = some (.val (.builtin "ValueError.__init__")))
    (a_NoSystem___init__ : PySem.W.findIn K (.ref A1) "__init__" = some (some (.ref f_NoSystem___init__)))
    (i_NoSystem___init__ : PySem.W.isFn K (.ref f_NoSystem___init__) = true)
    (t_NoSystem___init__ : PySem.W.typeIn K (.ref f_NoSystem___init__) = some (.type "function"))
    (l_NoSystem___init__ : K.lookup f_NoSystem___init__ = some ⟨oc_NoSystem___init__, od_NoSystem___init__, .func (PySem.W.fnOf "__init__" "NoSystem.__init__" (defArgs s_NoSystem___init__) (defBody s_NoSystem___init__) (defScope s_NoSystem___init__) .none kV_NoSystem___init__ dc_NoSystem___init__ pm_NoSystem___init__ an_NoSystem___init__ cd_NoSystem___init__ ct_NoSystem___init__), sl_NoSystem___init__⟩)
    (c_NoSystem___init___ : PySem.W.codeIn K cd_NoSystem___init__ "NoSystem.__init__" = true)
    (k_NoSystem___init__ : PySem.W.keepIn K (.ref f_NoSystem___init__) = true)
    (a_NoProcess___init__ : PySem.W.findIn K (.ref A2) "__init__" = some (some (.ref f_NoProcess___init__)))
    (i_NoProcess___init__ : PySem.W.isFn K (.ref f_NoProcess___init__) = true)
    (t_NoProcess___init__ : PySem.W.typeIn K (.ref f_NoProcess___init__) = some (.type "function"))
    (l_NoProcess___init__ : K.lookup f_NoProcess___init__ = some ⟨oc_NoProcess___init__, od_NoProcess___init__, .func (PySem.W.fnOf "__init__" "NoProcess.__init__" (defArgs s_NoProcess___init__) (defBody s_NoProcess___init__) (defScope s_NoProcess___init__) .none kV_NoProcess___init__ dc_NoProcess___init__ pm_NoProcess___init__ an_NoProcess___init__ cd_NoProcess___init__ ct_NoProcess___init__), sl_NoProcess___init__⟩)
    (c_NoProcess___init___ : PySem.W.codeIn K cd_NoProcess___init__ "NoProcess.__init__" = true)
    (k_NoProcess___init__ : PySem.W.keepIn K (.ref f_NoProcess___init__) = true)
    (a__law_said : PySem.W.nsIn K mainGlobals "_law_said" = some (some (.ref f__law_said)))
    (l__law_said : K.lookup f__law_said = some ⟨oc__law_said, od__law_said, .func (PySem.W.fnOf "_law_said" "_law_said" (defArgs s__law_said) (defBody s__law_said) (defScope s__law_said) .none kV__law_said dc__law_said pm__law_said an__law_said cd__law_said ct__law_said), sl__law_said⟩)
    (c__law_said_ : PySem.W.codeIn K cd__law_said "_law_said" = true)
    (k__law_said : PySem.W.keepIn K (.ref f__law_said) = true)
    (a_Memory___init__ : PySem.W.findIn K (.ref A4) "__init__" = some (some (.ref f_Memory___init__)))
    (i_Memory___init__ : PySem.W.isFn K (.ref f_Memory___init__) = true)
    (l_Memory___init__ : K.lookup f_Memory___init__ = some ⟨oc_Memory___init__, od_Memory___init__, .func (PySem.W.fnOf "__init__" "Memory.__init__" (defArgs s_Memory___init__) (defBody s_Memory___init__) (defScope s_Memory___init__) .none kV_Memory___init__ dc_Memory___init__ pm_Memory___init__ an_Memory___init__ cd_Memory___init__ ct_Memory___init__), sl_Memory___init__⟩)
    (c_Memory___init___ : PySem.W.codeIn K cd_Memory___init__ "Memory.__init__" = true)
    (k_Memory___init__ : PySem.W.keepIn K (.ref f_Memory___init__) = true)
    (a_Stack___init__ : PySem.W.findIn K (.ref A5) "__init__" = some (some (.ref f_Stack___init__)))
    (i_Stack___init__ : PySem.W.isFn K (.ref f_Stack___init__) = true)
    (l_Stack___init__ : K.lookup f_Stack___init__ = some ⟨oc_Stack___init__, od_Stack___init__, .func (PySem.W.fnOf "__init__" "Stack.__init__" (defArgs s_Stack___init__) (defBody s_Stack___init__) (defScope s_Stack___init__) .none kV_Stack___init__ dc_Stack___init__ pm_Stack___init__ an_Stack___init__ cd_Stack___init__ ct_Stack___init__), sl_Stack___init__⟩)
    (c_Stack___init___ : PySem.W.codeIn K cd_Stack___init__ "Stack.__init__" = true)
    (k_Stack___init__ : PySem.W.keepIn K (.ref f_Stack___init__) = true)
    (a_is_integer : PySem.W.nsIn K mainGlobals "is_integer" = some (some (.ref f_is_integer)))
    (l_is_integer : K.lookup f_is_integer = some ⟨oc_is_integer, od_is_integer, .func (PySem.W.fnOf "is_integer" "is_integer" (defArgs s_is_integer) (defBody s_is_integer) (defScope s_is_integer) .none kV_is_integer dc_is_integer pm_is_integer an_is_integer cd_is_integer ct_is_integer), sl_is_integer⟩)
    (c_is_integer_ : PySem.W.codeIn K cd_is_integer "is_integer" = true)
    (k_is_integer : PySem.W.keepIn K (.ref f_is_integer) = true)
    (a_is_between : PySem.W.nsIn K mainGlobals "is_between" = some (some (.ref f_is_between)))
    (l_is_between : K.lookup f_is_between = some ⟨oc_is_between, od_is_between, .func (PySem.W.fnOf "is_between" "is_between" (defArgs s_is_between) (defBody s_is_between) (defScope s_is_between) .none kV_is_between dc_is_between pm_is_between an_is_between cd_is_between ct_is_between), sl_is_between⟩)
    (c_is_between_ : PySem.W.codeIn K cd_is_between "is_between" = true)
    (k_is_between : PySem.W.keepIn K (.ref f_is_between) = true)
    (a_System___init__ : PySem.W.findIn K (.ref A6) "__init__" = some (some (.ref f_System___init__)))
    (i_System___init__ : PySem.W.isFn K (.ref f_System___init__) = true)
    (l_System___init__ : K.lookup f_System___init__ = some ⟨oc_System___init__, od_System___init__, .func (PySem.W.fnOf "__init__" "System.__init__" (defArgs s_System___init__) (defBody s_System___init__) (defScope s_System___init__) .none (.ref D_System___init__) dc_System___init__ pm_System___init__ an_System___init__ cd_System___init__ ct_System___init__), sl_System___init__⟩)
    (c_System___init___ : PySem.W.codeIn K cd_System___init__ "System.__init__" = true)
    (k_System___init__ : PySem.W.keepIn K (.ref f_System___init__) = true)
    (w_System___init___frames : PySem.W.nsIn K D_System___init__ "frames" = some (some (.none)))
    (w_System___init___slots : PySem.W.nsIn K D_System___init__ "slots" = some (some (.none)))
    (w_System___init___strict : PySem.W.nsIn K D_System___init__ "strict" = some (some (.bool false)))
    (a__law_draw : PySem.W.nsIn K mainGlobals "_law_draw" = some (some (.ref f__law_draw)))
    (l__law_draw : K.lookup f__law_draw = some ⟨oc__law_draw, od__law_draw, .func (PySem.W.fnOf "_law_draw" "_law_draw" (defArgs s__law_draw) (defBody s__law_draw) (defScope s__law_draw) .none kV__law_draw dc__law_draw pm__law_draw an__law_draw cd__law_draw ct__law_draw), sl__law_draw⟩)
    (c__law_draw_ : PySem.W.codeIn K cd__law_draw "_law_draw" = true)
    (k__law_draw : PySem.W.keepIn K (.ref f__law_draw) = true)
    (a__law_one : PySem.W.nsIn K mainGlobals "_law_one" = some (some (.ref f__law_one)))
    (l__law_one : K.lookup f__law_one = some ⟨oc__law_one, od__law_one, .func (PySem.W.fnOf "_law_one" "_law_one" (defArgs s__law_one) (defBody s__law_one) (defScope s__law_one) .none kV__law_one dc__law_one pm__law_one an__law_one cd__law_one ct__law_one), sl__law_one⟩)
    (c__law_one_ : PySem.W.codeIn K cd__law_one "_law_one" = true)
    (k__law_one : PySem.W.keepIn K (.ref f__law_one) = true)
    (a__law_is_number : PySem.W.nsIn K mainGlobals "_law_is_number" = some (some (.ref f__law_is_number)))
    (l__law_is_number : K.lookup f__law_is_number = some ⟨oc__law_is_number, od__law_is_number, .func (PySem.W.fnOf "_law_is_number" "_law_is_number" (defArgs s__law_is_number) (defBody s__law_is_number) (defScope s__law_is_number) .none kV__law_is_number dc__law_is_number pm__law_is_number an__law_is_number cd__law_is_number ct__law_is_number), sl__law_is_number⟩)
    (c__law_is_number_ : PySem.W.codeIn K cd__law_is_number "_law_is_number" = true)
    (k__law_is_number : PySem.W.keepIn K (.ref f__law_is_number) = true)
    (a_now : PySem.W.nsIn K mainGlobals "now" = some (some (.ref f_now)))
    (l_now : K.lookup f_now = some ⟨oc_now, od_now, .func (PySem.W.fnOf "now" "now" (defArgs s_now) (defBody s_now) (defScope s_now) .none kV_now dc_now pm_now an_now cd_now ct_now), sl_now⟩)
    (c_now_ : PySem.W.codeIn K cd_now "now" = true)
    (k_now : PySem.W.keepIn K (.ref f_now) = true)
    (a_processes : PySem.W.nsIn K mainGlobals "processes" = some (some (.ref f_processes)))
    (l_processes : K.lookup f_processes = some ⟨oc_processes, od_processes, .func (PySem.W.fnOf "processes" "processes" (defArgs s_processes) (defBody s_processes) (defScope s_processes) .none kV_processes dc_processes pm_processes an_processes cd_processes ct_processes), sl_processes⟩)
    (c_processes_ : PySem.W.codeIn K cd_processes "processes" = true)
    (k_processes : PySem.W.keepIn K (.ref f_processes) = true)
    (a__law_system_right : PySem.W.nsIn K mainGlobals "_law_system_right" = some (some (.ref f__law_system_right)))
    (l__law_system_right : K.lookup f__law_system_right = some ⟨oc__law_system_right, od__law_system_right, .func (PySem.W.fnOf "_law_system_right" "_law_system_right" (defArgs s__law_system_right) (defBody s__law_system_right) (defScope s__law_system_right) .none kV__law_system_right dc__law_system_right pm__law_system_right an__law_system_right (.ref c__law_system_right) ct__law_system_right), sl__law_system_right⟩)
    (c__law_system_right_ : PySem.W.codeIn K (.ref c__law_system_right) "_law_system_right" = true)
    (k__law_system_right : PySem.W.keepIn K (.ref f__law_system_right) = true)
    (lc__law_system_right : K.lookup c__law_system_right = some ⟨occ__law_system_right, odc__law_system_right, .fields us__law_system_right, slc__law_system_right⟩)
    (p__law_system_right_ : us__law_system_right[11]? = some (.ref P__law_system_right))
    (hc__law_system_right : PySem.W.codeHdIn K c__law_system_right P__law_system_right = true)
    (np__law_system_right : K.lookup P__law_system_right = none)
    (mt__law_system_right : P__law_system_right ∈ ts)
    (a__law_well : PySem.W.nsIn K mainGlobals "_law_well" = some (some (.ref f__law_well)))
    (l__law_well : K.lookup f__law_well = some ⟨oc__law_well, od__law_well, .func (PySem.W.fnOf "_law_well" "_law_well" (defArgs s__law_well) (defBody s__law_well) (defScope s__law_well) .none kV__law_well dc__law_well pm__law_well an__law_well cd__law_well ct__law_well), sl__law_well⟩)
    (c__law_well_ : PySem.W.codeIn K cd__law_well "_law_well" = true)
    (k__law_well : PySem.W.keepIn K (.ref f__law_well) = true)
    (a_Stack_put : PySem.W.findIn K (.ref A5) "put" = some (some (.ref f_Stack_put)))
    (i_Stack_put : PySem.W.isFn K (.ref f_Stack_put) = true)
    (l_Stack_put : K.lookup f_Stack_put = some ⟨oc_Stack_put, od_Stack_put, .func (PySem.W.fnOf "put" "Stack.put" (defArgs s_Stack_put) (defBody s_Stack_put) (defScope s_Stack_put) .none kV_Stack_put dc_Stack_put pm_Stack_put an_Stack_put cd_Stack_put ct_Stack_put), sl_Stack_put⟩)
    (c_Stack_put_ : PySem.W.codeIn K cd_Stack_put "Stack.put" = true)
    (k_Stack_put : PySem.W.keepIn K (.ref f_Stack_put) = true)
    (a_Stack_relock : PySem.W.findIn K (.ref A5) "relock" = some (some (.ref f_Stack_relock)))
    (i_Stack_relock : PySem.W.isFn K (.ref f_Stack_relock) = true)
    (l_Stack_relock : K.lookup f_Stack_relock = some ⟨oc_Stack_relock, od_Stack_relock, .func (PySem.W.fnOf "relock" "Stack.relock" (defArgs s_Stack_relock) (defBody s_Stack_relock) (defScope s_Stack_relock) .none kV_Stack_relock dc_Stack_relock pm_Stack_relock an_Stack_relock cd_Stack_relock ct_Stack_relock), sl_Stack_relock⟩)
    (c_Stack_relock_ : PySem.W.codeIn K cd_Stack_relock "Stack.relock" = true)
    (k_Stack_relock : PySem.W.keepIn K (.ref f_Stack_relock) = true)
    (a_System_locked_items : PySem.W.findIn K (.ref A6) "locked_items" = some (some (.ref f_System_locked_items)))
    (i_System_locked_items : PySem.W.isFn K (.ref f_System_locked_items) = true)
    (l_System_locked_items : K.lookup f_System_locked_items = some ⟨oc_System_locked_items, od_System_locked_items, .func (PySem.W.fnOf "locked_items" "System.locked_items" (defArgs s_System_locked_items) (defBody s_System_locked_items) (defScope s_System_locked_items) .none kV_System_locked_items dc_System_locked_items pm_System_locked_items an_System_locked_items cd_System_locked_items ct_System_locked_items), sl_System_locked_items⟩)
    (c_System_locked_items_ : PySem.W.codeIn K cd_System_locked_items "System.locked_items" = true)
    (k_System_locked_items : PySem.W.keepIn K (.ref f_System_locked_items) = true)
    (a_System_locked_pages : PySem.W.findIn K (.ref A6) "locked_pages" = some (some (.ref f_System_locked_pages)))
    (i_System_locked_pages : PySem.W.isFn K (.ref f_System_locked_pages) = true)
    (l_System_locked_pages : K.lookup f_System_locked_pages = some ⟨oc_System_locked_pages, od_System_locked_pages, .func (PySem.W.fnOf "locked_pages" "System.locked_pages" (defArgs s_System_locked_pages) (defBody s_System_locked_pages) (defScope s_System_locked_pages) .none kV_System_locked_pages dc_System_locked_pages pm_System_locked_pages an_System_locked_pages cd_System_locked_pages ct_System_locked_pages), sl_System_locked_pages⟩)
    (c_System_locked_pages_ : PySem.W.codeIn K cd_System_locked_pages "System.locked_pages" = true)
    (k_System_locked_pages : PySem.W.keepIn K (.ref f_System_locked_pages) = true)
    (a_System_settle : PySem.W.findIn K (.ref A6) "settle" = some (some (.ref f_System_settle)))
    (i_System_settle : PySem.W.isFn K (.ref f_System_settle) = true)
    (l_System_settle : K.lookup f_System_settle = some ⟨oc_System_settle, od_System_settle, .func (PySem.W.fnOf "settle" "System.settle" (defArgs s_System_settle) (defBody s_System_settle) (defScope s_System_settle) .none kV_System_settle dc_System_settle pm_System_settle an_System_settle cd_System_settle ct_System_settle), sl_System_settle⟩)
    (c_System_settle_ : PySem.W.codeIn K cd_System_settle "System.settle" = true)
    (k_System_settle : PySem.W.keepIn K (.ref f_System_settle) = true)
    (a_sorted_pages : PySem.W.nsIn K mainGlobals "sorted_pages" = some (some (.ref f_sorted_pages)))
    (l_sorted_pages : K.lookup f_sorted_pages = some ⟨oc_sorted_pages, od_sorted_pages, .func (PySem.W.fnOf "sorted_pages" "sorted_pages" (defArgs s_sorted_pages) (defBody s_sorted_pages) (defScope s_sorted_pages) .none kV_sorted_pages dc_sorted_pages pm_sorted_pages an_sorted_pages cd_sorted_pages ct_sorted_pages), sl_sorted_pages⟩)
    (c_sorted_pages_ : PySem.W.codeIn K cd_sorted_pages "sorted_pages" = true)
    (k_sorted_pages : PySem.W.keepIn K (.ref f_sorted_pages) = true)
    (a_places : PySem.W.nsIn K mainGlobals "places" = some (some (.ref f_places)))
    (l_places : K.lookup f_places = some ⟨oc_places, od_places, .func (PySem.W.fnOf "places" "places" (defArgs s_places) (defBody s_places) (defScope s_places) .none kV_places dc_places pm_places an_places cd_places ct_places), sl_places⟩)
    (c_places_ : PySem.W.codeIn K cd_places "places" = true)
    (k_places : PySem.W.keepIn K (.ref f_places) = true)
    (a_tidy : PySem.W.nsIn K mainGlobals "tidy" = some (some (.ref f_tidy)))
    (l_tidy : K.lookup f_tidy = some ⟨oc_tidy, od_tidy, .func (PySem.W.fnOf "tidy" "tidy" (defArgs s_tidy) (defBody s_tidy) (defScope s_tidy) .none kV_tidy dc_tidy pm_tidy an_tidy cd_tidy ct_tidy), sl_tidy⟩)
    (c_tidy_ : PySem.W.codeIn K cd_tidy "tidy" = true)
    (k_tidy : PySem.W.keepIn K (.ref f_tidy) = true)
    (a_System_done : PySem.W.findIn K (.ref A6) "done" = some (some (.ref f_System_done)))
    (i_System_done : PySem.W.isFn K (.ref f_System_done) = true)
    (l_System_done : K.lookup f_System_done = some ⟨oc_System_done, od_System_done, .func (PySem.W.fnOf "done" "System.done" (defArgs s_System_done) (defBody s_System_done) (defScope s_System_done) .none kV_System_done dc_System_done pm_System_done an_System_done cd_System_done ct_System_done), sl_System_done⟩)
    (c_System_done_ : PySem.W.codeIn K cd_System_done "System.done" = true)
    (k_System_done : PySem.W.keepIn K (.ref f_System_done) = true)
    (a_check_charge : PySem.W.nsIn K mainGlobals "check_charge" = some (some (.ref f_check_charge)))
    (l_check_charge : K.lookup f_check_charge = some ⟨oc_check_charge, od_check_charge, .func (PySem.W.fnOf "check_charge" "check_charge" (defArgs s_check_charge) (defBody s_check_charge) (defScope s_check_charge) (.ref T_check_charge) kV_check_charge dc_check_charge pm_check_charge an_check_charge cd_check_charge ct_check_charge), sl_check_charge⟩)
    (c_check_charge_ : PySem.W.codeIn K cd_check_charge "check_charge" = true)
    (k_check_charge : PySem.W.keepIn K (.ref f_check_charge) = true)
    (d_check_charge : K.lookup T_check_charge = some ⟨ot_check_charge, odt_check_charge, .seq (List.toArray [.none]) nt_check_charge, slt_check_charge⟩)
    (a_check_process : PySem.W.nsIn K mainGlobals "check_process" = some (some (.ref f_check_process)))
    (l_check_process : K.lookup f_check_process = some ⟨oc_check_process, od_check_process, .func (PySem.W.fnOf "check_process" "check_process" (defArgs s_check_process) (defBody s_check_process) (defScope s_check_process) .none kV_check_process dc_check_process pm_check_process an_check_process cd_check_process ct_check_process), sl_check_process⟩)
    (c_check_process_ : PySem.W.codeIn K cd_check_process "check_process" = true)
    (k_check_process : PySem.W.keepIn K (.ref f_check_process) = true)
    (a_child_pages : PySem.W.nsIn K mainGlobals "child_pages" = some (some (.ref f_child_pages)))
    (l_child_pages : K.lookup f_child_pages = some ⟨oc_child_pages, od_child_pages, .func (PySem.W.fnOf "child_pages" "child_pages" (defArgs s_child_pages) (defBody s_child_pages) (defScope s_child_pages) .none kV_child_pages dc_child_pages pm_child_pages an_child_pages cd_child_pages ct_child_pages), sl_child_pages⟩)
    (c_child_pages_ : PySem.W.codeIn K cd_child_pages "child_pages" = true)
    (k_child_pages : PySem.W.keepIn K (.ref f_child_pages) = true)
    (a_new_process : PySem.W.nsIn K mainGlobals "new_process" = some (some (.ref f_new_process)))
    (l_new_process : K.lookup f_new_process = some ⟨oc_new_process, od_new_process, .func (PySem.W.fnOf "new_process" "new_process" (defArgs s_new_process) (defBody s_new_process) (defScope s_new_process) .none kV_new_process dc_new_process pm_new_process an_new_process cd_new_process ct_new_process), sl_new_process⟩)
    (c_new_process_ : PySem.W.codeIn K cd_new_process "new_process" = true)
    (k_new_process : PySem.W.keepIn K (.ref f_new_process) = true)
    (a_fork : PySem.W.nsIn K mainGlobals "fork" = some (some (.ref f_fork)))
    (l_fork : K.lookup f_fork = some ⟨oc_fork, od_fork, .func (PySem.W.fnOf "fork" "fork" (defArgs s_fork) (defBody s_fork) (defScope s_fork) .none kV_fork dc_fork pm_fork an_fork cd_fork ct_fork), sl_fork⟩)
    (c_fork_ : PySem.W.codeIn K cd_fork "fork" = true)
    (k_fork : PySem.W.keepIn K (.ref f_fork) = true)
    (a_fresh : PySem.W.nsIn K mainGlobals "fresh" = some (some (.ref f_fresh)))
    (l_fresh : K.lookup f_fresh = some ⟨oc_fresh, od_fresh, .func (PySem.W.fnOf "fresh" "fresh" (defArgs s_fresh) (defBody s_fresh) (defScope s_fresh) .none kV_fresh dc_fresh pm_fresh an_fresh cd_fresh ct_fresh), sl_fresh⟩)
    (c_fresh_ : PySem.W.codeIn K cd_fresh "fresh" = true)
    (k_fresh : PySem.W.keepIn K (.ref f_fresh) = true)
    (a_leave : PySem.W.nsIn K mainGlobals "leave" = some (some (.ref f_leave)))
    (l_leave : K.lookup f_leave = some ⟨oc_leave, od_leave, .func (PySem.W.fnOf "leave" "leave" (defArgs s_leave) (defBody s_leave) (defScope s_leave) .none kV_leave dc_leave pm_leave an_leave cd_leave ct_leave), sl_leave⟩)
    (c_leave_ : PySem.W.codeIn K cd_leave "leave" = true)
    (k_leave : PySem.W.keepIn K (.ref f_leave) = true)
    (a_spawn : PySem.W.nsIn K mainGlobals "spawn" = some (some (.ref f_spawn)))
    (l_spawn : K.lookup f_spawn = some ⟨oc_spawn, od_spawn, .func (PySem.W.fnOf "spawn" "spawn" (defArgs s_spawn) (defBody s_spawn) (defScope s_spawn) .none kV_spawn dc_spawn pm_spawn an_spawn cd_spawn ct_spawn), sl_spawn⟩)
    (c_spawn_ : PySem.W.codeIn K cd_spawn "spawn" = true)
    (k_spawn : PySem.W.keepIn K (.ref f_spawn) = true)
    (a_law : PySem.W.nsIn K mainGlobals "law" = some (some (.ref f_law)))
    (l_law : K.lookup f_law = some ⟨oc_law, od_law, .func (PySem.W.fnOf "law" "law" (defArgs s_law) (defBody s_law) (defScope s_law) .none kV_law dc_law pm_law an_law (.ref c_law) ct_law), sl_law⟩)
    (c_law_ : PySem.W.codeIn K (.ref c_law) "law" = true)
    (k_law : PySem.W.keepIn K (.ref f_law) = true)
    (lc_law : K.lookup c_law = some ⟨occ_law, odc_law, .fields us_law, slc_law⟩)
    (p_law_ : us_law[11]? = some (.ref P_law))
    (hc_law : PySem.W.codeHdIn K c_law P_law = true)
    (np_law : K.lookup P_law = none)
    (mt_law : P_law ∈ ts)
    (ne__law_system_right_law : P__law_system_right ≠ P_law)
    (no_range : PySem.W.nsIn K mainGlobals "range" = some none)
    (no_enumerate : PySem.W.nsIn K mainGlobals "enumerate" = some none)
    (no_zip : PySem.W.nsIn K mainGlobals "zip" = some none)
    (no_len : PySem.W.nsIn K mainGlobals "len" = some none)
    (no_int : PySem.W.nsIn K mainGlobals "int" = some none)
    (no_abs : PySem.W.nsIn K mainGlobals "abs" = some none)
    (no_isinstance : PySem.W.nsIn K mainGlobals "isinstance" = some none)
    (no_sum : PySem.W.nsIn K mainGlobals "sum" = some none)
    (no_any : PySem.W.nsIn K mainGlobals "any" = some none)
    (no_all : PySem.W.nsIn K mainGlobals "all" = some none)
    (no_sorted : PySem.W.nsIn K mainGlobals "sorted" = some none)
    (no_list : PySem.W.nsIn K mainGlobals "list" = some none)
    (no_max : PySem.W.nsIn K mainGlobals "max" = some none)
    (no_min : PySem.W.nsIn K mainGlobals "min" = some none)
    (no_bool : PySem.W.nsIn K mainGlobals "bool" = some none)
    (no_str : PySem.W.nsIn K mainGlobals "str" = some none)
    (no_tuple : PySem.W.nsIn K mainGlobals "tuple" = some none)
    (no_dict : PySem.W.nsIn K mainGlobals "dict" = some none) :
    LamX.LawAtS l w K (L2.CX l.prog w) 9 63 "script" mg fa h := by
  let cl : CT := ⟨fun i => match i with | 0 => A0 | 1 => A1 | 2 => A2 | 3 => A3 | 4 => A4 | 5 => A5 | 6 => A6 | _ => 0, fun i => match i with | 4 => fl_4 | 5 => fl_5 | 6 => fl_6 | _ => [], [(P__law_system_right, ((("_law_system_right" : Str) ++ (".<locals>." : Str)) ++ ("<lambda>" : Str))), (P_law, ((("law" : Str) ++ (".<locals>." : Str)) ++ ("<lambda>" : Str)))]⟩
  have T : Txt K mg cl := ⟨⟨pg4, hd4, po4, sa4⟩, (all_cons n4_0 (all_cons n4_1 (all_cons n4_2 (all_cons n4_3 (all_cons n4_4 (all_cons n4_5 (all_cons n4_6 all_nil))))))), (fun _ h => h), ⟨pg5, hd5, po5, sa5⟩, (all_cons n5_0 (all_cons n5_1 (all_cons n5_2 (all_cons n5_3 (all_cons n5_4 (all_cons n5_5 (all_cons n5_6 (all_cons n5_7 (all_cons n5_8 (all_cons n5_9 (all_cons n5_10 (all_cons n5_11 (all_cons n5_12 (all_cons n5_13 (all_cons n5_14 all_nil))))))))))))))), (fun _ h => h), ⟨pg6, hd6, po6, sa6⟩, (all_cons n6_0 (all_cons n6_1 (all_cons n6_2 (all_cons n6_3 (all_cons n6_4 (all_cons n6_5 (all_cons n6_6 (all_cons n6_7 (all_cons n6_8 (all_cons n6_9 (all_cons n6_10 (all_cons n6_11 (all_cons n6_12 (all_cons n6_13 all_nil)))))))))))))), (fun _ h => h), (PySem.W.mg_of X G aC0), (PySem.W.mg_of X G aC1), (PySem.W.mg_of X G aC2), (PySem.W.mg_of X G aC3), ⟨ga0, gg0, eb0, hd0⟩, ⟨ga1, gg1, eb1, hd1⟩, xn1, ⟨ga2, gg2, eb2, hd2⟩, xn2, ⟨ga3, gg3, eb3, hd3⟩, (all_cons (exm_mk eb0 ic0 tc0 ss0_0) (all_cons (exm_mk eb1 ic1 tc1 ss0_1) (all_cons (exm_mk eb2 ic2 tc2 ss0_2) (all_cons (exm_mk eb3 ic3 tc3 ss0_3) (all_cons (exm_mk eb0 ic0 tc0 ss1_0) (all_cons (exm_mk eb1 ic1 tc1 ss1_1) (all_cons (exm_mk eb2 ic2 tc2 ss1_2) (all_cons (exm_mk eb3 ic3 tc3 ss1_3) (all_cons (exm_mk eb0 ic0 tc0 ss2_0) (all_cons (exm_mk eb1 ic1 tc1 ss2_1) (all_cons (exm_mk eb2 ic2 tc2 ss2_2) (all_cons (exm_mk eb3 ic3 tc3 ss2_3) (all_cons (exm_mk eb0 ic0 tc0 ss3_0) (all_cons (exm_mk eb1 ic1 tc1 ss3_1) (all_cons (exm_mk eb2 ic2 tc2 ss3_2) (all_cons (exm_mk eb3 ic3 tc3 ss3_3) all_nil)))))))))))))))), (all_cons (PySem.W.mg_none_of X G no_range) (all_cons (PySem.W.mg_none_of X G no_enumerate) (all_cons (PySem.W.mg_none_of X G no_zip) (all_cons (PySem.W.mg_none_of X G no_len) (all_cons (PySem.W.mg_none_of X G no_int) (all_cons (PySem.W.mg_none_of X G no_abs) (all_cons (PySem.W.mg_none_of X G no_isinstance) (all_cons (PySem.W.mg_none_of X G no_sum) (all_cons (PySem.W.mg_none_of X G no_any) (all_cons (PySem.W.mg_none_of X G no_all) (all_cons (PySem.W.mg_none_of X G no_sorted) (all_cons (PySem.W.mg_none_of X G no_list) (all_cons (PySem.W.mg_none_of X G no_max) (all_cons (PySem.W.mg_none_of X G no_min) (all_cons (PySem.W.mg_none_of X G no_bool) (all_cons (PySem.W.mg_none_of X G no_str) (all_cons (PySem.W.mg_none_of X G no_tuple) (all_cons (PySem.W.mg_none_of X G no_dict) all_nil))))))))))))))))))⟩
  have hfl := hfa.symm.trans (PySem.W.mg_of X G a_law)
  cases hfl
  refine ⟨PySem.W.fnOf "law" "law" (defArgs s_law) (defBody s_law) (defScope s_law) .none kV_law dc_law pm_law an_law (.ref c_law) ct_law, [(c__law_system_right, P__law_system_right), (c_law, P_law)], spLaw K cl p_law (fun _ _ _ => False), (all_cons (hT _ mt__law_system_right) (all_cons (hT _ mt_law) all_nil)), (all_cons np__law_system_right (all_cons np_law all_nil)), (all_cons (PySem.W.codeHd_of_K X hc__law_system_right) (all_cons (PySem.W.codeHd_of_K X hc_law) all_nil)), fun s v => .of_eq rfl, fun H a ns hl hi hH hS => ⟨a, ns, rfl, hS, ?_, hp ns hl hi, fun _ => rfl⟩, fun base KB GB TB => ?_⟩
  · intro p hp
    exact tabs_empty hH (all_cons ⟨c__law_system_right, by simp⟩ (all_cons ⟨c_law, by simp⟩ all_nil)) p hp
  have F_NoSystem___init__ := fun_mk (st := s_NoSystem___init__) l_NoSystem___init__ c_NoSystem___init___ k_NoSystem___init__
  have O1 : OexC K A1 := ⟨⟨_, _, _, _, _, _, _, _, _, _, _, _, _, _, _, xl1, xb1⟩, sa1, eb1, tc1, kc1⟩
  have x_NoSystem : ExM l.prog w K mg base cl 1 "part" := ⟨O1, f_NoSystem___init__, _, _, a_NoSystem___init__, t_NoSystem___init__, x_NoSystem___init__ F_NoSystem___init__ (PySem.W.mg_of X G aC0) ⟨bg0, br0, be0⟩ O1 xn1, F_NoSystem___init__.binds (ps := ["self", "part"]) fun _ _ _ _ _ _ us hl => match us, hl with | [_, _], _ => rfl⟩
  have F_NoProcess___init__ := fun_mk (st := s_NoProcess___init__) l_NoProcess___init__ c_NoProcess___init___ k_NoProcess___init__
  have O2 : OexC K A2 := ⟨⟨_, _, _, _, _, _, _, _, _, _, _, _, _, _, _, xl2, xb2⟩, sa2, eb2, tc2, kc2⟩
  have x_NoProcess : ExM l.prog w K mg base cl 2 "process" := ⟨O2, f_NoProcess___init__, _, _, a_NoProcess___init__, t_NoProcess___init__, x_NoProcess___init__ F_NoProcess___init__ (PySem.W.mg_of X G aC0) ⟨bg0, br0, be0⟩ O2 xn2, F_NoProcess___init__.binds (ps := ["self", "process"]) fun _ _ _ _ _ _ us hl => match us, hl with | [_, _], _ => rfl⟩
  have said__law_said : SaidM K mg "_law_said" "ask" s__law_said := ⟨f__law_said, _, _, _, _, _, _, _, _, _, _, PySem.W.mg_of X G a__law_said, k__law_said, l__law_said, c__law_said_, (fun_mk (st := s__law_said) l__law_said c__law_said_ k__law_said).binds (ps := ["ask"]) fun _ _ _ _ _ _ us hl => match us, hl with | [_], _ => rfl⟩
  have F_Memory___init__ := fun_mk (st := s_Memory___init__) l_Memory___init__ c_Memory___init___ k_Memory___init__
  have G_Memory___init__ := fn_mp (P := l.prog) (w := w) (mg := mg) (base := base) F_Memory___init__ sc_Memory___init__ (w_Memory___init__ T)
  have c_Memory___init__ : ClsM l.prog w K mg base cl 1 4 "Memory" 1 [] p_Memory___init__ gp_Memory___init__ := ⟨⟨f_Memory___init__, _, ["self", "system"], G_Memory___init__, ⟨mk4, a_Memory___init__, i_Memory___init__, kc4⟩, (KBp.plain (F_Memory___init__.binds (ps := ["self", "system"]) fun _ _ _ _ _ _ us hl => match us, hl with | [_, _], _ => rfl))⟩, PySem.W.mg_of X G aC4⟩
  have F_Stack___init__ := fun_mk (st := s_Stack___init__) l_Stack___init__ c_Stack___init___ k_Stack___init__
  have G_Stack___init__ := fn_mp (P := l.prog) (w := w) (mg := mg) (base := base) F_Stack___init__ sc_Stack___init__ (w_Stack___init__ T)
  have c_Stack___init__ : ClsM l.prog w K mg base cl 1 5 "Stack" 0 [] p_Stack___init__ gp_Stack___init__ := ⟨⟨f_Stack___init__, _, ["self"], G_Stack___init__, ⟨mk5, a_Stack___init__, i_Stack___init__, kc5⟩, (KBp.plain (F_Stack___init__.binds (ps := ["self"]) fun _ _ _ _ _ _ us hl => match us, hl with | [_], _ => rfl))⟩, PySem.W.mg_of X G aC5⟩
  have F_is_integer := fun_mk (st := s_is_integer) l_is_integer c_is_integer_ k_is_integer
  have G_is_integer := fn_mp (P := l.prog) (w := w) (mg := mg) (base := base) F_is_integer sc_is_integer (w_is_integer T)
  have c_is_integer : CalM l.prog w K mg base cl 1 "is_integer" 1 [] p_is_integer gp_is_integer := ⟨f_is_integer, _, ["thing"], G_is_integer, PySem.W.mg_of X G a_is_integer, k_is_integer, (KBp.plain (F_is_integer.binds (ps := ["thing"]) fun _ _ _ _ _ _ us hl => match us, hl with | [_], _ => rfl))⟩
  have F_is_between := fun_mk (st := s_is_between) l_is_between c_is_between_ k_is_between
  have G_is_between := fn_mp (P := l.prog) (w := w) (mg := mg) (base := base) F_is_between sc_is_between (w_is_between T c_is_integer)
  have c_is_between : CalM l.prog w K mg base cl 2 "is_between" 3 [] p_is_between gp_is_between := ⟨f_is_between, _, ["thing", "low", "high"], G_is_between, PySem.W.mg_of X G a_is_between, k_is_between, (KBp.plain (F_is_between.binds (ps := ["thing", "low", "high"]) fun _ _ _ _ _ _ us hl => match us, hl with | [_, _, _], _ => rfl))⟩
  have G_System___init__ := fn_mpD (P := l.prog) (w := w) (mg := mg) (base := base) l_System___init__ c_System___init___ sc_System___init__ (w_System___init__ T c_Memory___init__ c_Stack___init__ c_is_between x_NoSystem)
  have D_System___init__ : FunD K "__init__" "System.__init__" (defArgs s_System___init__) (defBody s_System___init__) (defScope s_System___init__) [] [("frames", .non), ("slots", .non), ("strict", .bl false)] f_System___init__ _ := ⟨⟨_, _, _, _, _, _, _, _, _, _, rfl, l_System___init__, c_System___init___, .inl ⟨rfl, rfl⟩, .inr ⟨D_System___init__, rfl, (all_cons ⟨_, w_System___init___frames, rfl⟩ (all_cons ⟨_, w_System___init___slots, rfl⟩ (all_cons ⟨_, w_System___init___strict, rfl⟩ all_nil)))⟩⟩, k_System___init__⟩
  have c_System___init___k0 : ClsM l.prog w K mg base cl 3 6 "System" 0 [] p_System___init__ gp_System___init___k0 := ⟨⟨f_System___init__, _, ["self", "frames", "slots", "strict"], G_System___init__, ⟨mk6, a_System___init__, i_System___init__, kc6⟩, (kbp_kw0 D_System___init__ (by decide) (fun _ _ => (.cons (.non) (.cons (.non) (.cons (.bl false) .nil)))) rfl fun _ _ _ _ _ _ us mv h1 h2 => match us, mv, h1, h2 with | [_], [_, _, _], _, _ => ⟨_, _, _, _, _, _, rfl, rfl, ⟨_, _, _, _, _, _, rfl, rfl, ⟨_, _, _, _, _, _, rfl, rfl, rfl⟩⟩⟩)⟩, PySem.W.mg_of X G aC6⟩
  have c_System___init___kframes_slots_strict : ClsM l.prog w K mg base cl 3 6 "System" 0 ["frames", "slots", "strict"] p_System___init__ gp_System___init___kframes_slots_strict := ⟨⟨f_System___init__, _, ["self", "frames", "slots", "strict"], G_System___init__, ⟨mk6, a_System___init__, i_System___init__, kc6⟩, (kbp_kwA D_System___init__ (by decide) rfl fun _ _ _ _ _ _ us ws h1 h2 => match us, ws, h1, h2 with | [_], [_, _, _], _, _ => rfl)⟩, PySem.W.mg_of X G aC6⟩
  have F__law_draw := fun_mk (st := s__law_draw) l__law_draw c__law_draw_ k__law_draw
  have G__law_draw := fn_mp (P := l.prog) (w := w) (mg := mg) (base := base) F__law_draw sc__law_draw (w__law_draw T)
  have c__law_draw : CalM l.prog w K mg base cl 1 "_law_draw" 2 [] p__law_draw gp__law_draw := ⟨f__law_draw, _, ["well", "many"], G__law_draw, PySem.W.mg_of X G a__law_draw, k__law_draw, (KBp.plain (F__law_draw.binds (ps := ["well", "many"]) fun _ _ _ _ _ _ us hl => match us, hl with | [_, _], _ => rfl))⟩
  have F__law_one := fun_mk (st := s__law_one) l__law_one c__law_one_ k__law_one
  have G__law_one := fn_mp (P := l.prog) (w := w) (mg := mg) (base := base) F__law_one sc__law_one (w__law_one T c__law_draw)
  have c__law_one : CalM l.prog w K mg base cl 2 "_law_one" 2 [] p__law_one gp__law_one := ⟨f__law_one, _, ["well", "some"], G__law_one, PySem.W.mg_of X G a__law_one, k__law_one, (KBp.plain (F__law_one.binds (ps := ["well", "some"]) fun _ _ _ _ _ _ us hl => match us, hl with | [_, _], _ => rfl))⟩
  have F__law_is_number := fun_mk (st := s__law_is_number) l__law_is_number c__law_is_number_ k__law_is_number
  have G__law_is_number := fn_mp (P := l.prog) (w := w) (mg := mg) (base := base) F__law_is_number sc__law_is_number (w__law_is_number T)
  have c__law_is_number : CalM l.prog w K mg base cl 1 "_law_is_number" 3 [] p__law_is_number gp__law_is_number := ⟨f__law_is_number, _, ["thing", "low", "high"], G__law_is_number, PySem.W.mg_of X G a__law_is_number, k__law_is_number, (KBp.plain (F__law_is_number.binds (ps := ["thing", "low", "high"]) fun _ _ _ _ _ _ us hl => match us, hl with | [_, _, _], _ => rfl))⟩
  have F_now := fun_mk (st := s_now) l_now c_now_ k_now
  have G_now := fn_mp (P := l.prog) (w := w) (mg := mg) (base := base) F_now sc_now (w_now T)
  have c_now : CalM l.prog w K mg base cl 1 "now" 1 [] p_now gp_now := ⟨f_now, _, ["system"], G_now, PySem.W.mg_of X G a_now, k_now, (KBp.plain (F_now.binds (ps := ["system"]) fun _ _ _ _ _ _ us hl => match us, hl with | [_], _ => rfl))⟩
  have F_processes := fun_mk (st := s_processes) l_processes c_processes_ k_processes
  have G_processes := fn_mp (P := l.prog) (w := w) (mg := mg) (base := base) F_processes sc_processes (w_processes T)
  have c_processes : CalM l.prog w K mg base cl 1 "processes" 1 [] p_processes gp_processes := ⟨f_processes, _, ["system"], G_processes, PySem.W.mg_of X G a_processes, k_processes, (KBp.plain (F_processes.binds (ps := ["system"]) fun _ _ _ _ _ _ us hl => match us, hl with | [_], _ => rfl))⟩
  have G__law_system_right := fn_mpA (P := l.prog) (w := w) (mg := mg) (base := base) l__law_system_right c__law_system_right_ sc__law_system_right (w__law_system_right T c_System___init___kframes_slots_strict c__law_draw c__law_is_number c__law_one c_now c_processes said__law_said ⟨TB (c__law_system_right, P__law_system_right) (by simp), by simp [cl], (all_cons (fun _ => rfl) (all_cons (fun h => absurd h.symm ne__law_system_right_law) all_nil))⟩)
  have c__law_system_right : CalM l.prog w K mg base cl 7 "_law_system_right" 1 [] p__law_system_right gp__law_system_right := ⟨f__law_system_right, _, ["well"], G__law_system_right, PySem.W.mg_of X G a__law_system_right, k__law_system_right, (KBp.plain ((fun_mk (st := s__law_system_right) l__law_system_right c__law_system_right_ k__law_system_right).binds (ps := ["well"]) fun _ _ _ _ _ _ us hl => match us, hl with | [_], _ => rfl))⟩
  have F__law_well := fun_mk (st := s__law_well) l__law_well c__law_well_ k__law_well
  have G__law_well := fn_mp (P := l.prog) (w := w) (mg := mg) (base := base) F__law_well sc__law_well (w__law_well T)
  have c__law_well : CalM l.prog w K mg base cl 1 "_law_well" 1 [] p__law_well gp__law_well := ⟨f__law_well, _, ["cell"], G__law_well, PySem.W.mg_of X G a__law_well, k__law_well, (KBp.plain (F__law_well.binds (ps := ["cell"]) fun _ _ _ _ _ _ us hl => match us, hl with | [_], _ => rfl))⟩
  have F_Stack_put := fun_mk (st := s_Stack_put) l_Stack_put c_Stack_put_ k_Stack_put
  have G_Stack_put := fn_mp (P := l.prog) (w := w) (mg := mg) (base := base) F_Stack_put sc_Stack_put (w_Stack_put T)
  have c_Stack_put : MetM l.prog w K mg base cl 1 5 "put" 2 p_Stack_put gp_Stack_put := ⟨⟨f_Stack_put, _, ["self", "at", "item"], G_Stack_put, ⟨a_Stack_put, i_Stack_put, k_Stack_put⟩, (KBp.plain (F_Stack_put.binds (ps := ["self", "at", "item"]) fun _ _ _ _ _ _ us hl => match us, hl with | [_, _, _], _ => rfl))⟩, ⟨pg5, hd5, po5, sa5⟩, by show ∀ z ∈ fl_5, z ≠ "put"; decide +kernel⟩
  have F_Stack_relock := fun_mk (st := s_Stack_relock) l_Stack_relock c_Stack_relock_ k_Stack_relock
  have G_Stack_relock := fn_mp (P := l.prog) (w := w) (mg := mg) (base := base) F_Stack_relock sc_Stack_relock (w_Stack_relock T c_Stack_put)
  have c_Stack_relock : MetM l.prog w K mg base cl 2 5 "relock" 1 p_Stack_relock gp_Stack_relock := ⟨⟨f_Stack_relock, _, ["self", "locked"], G_Stack_relock, ⟨a_Stack_relock, i_Stack_relock, k_Stack_relock⟩, (KBp.plain (F_Stack_relock.binds (ps := ["self", "locked"]) fun _ _ _ _ _ _ us hl => match us, hl with | [_, _], _ => rfl))⟩, ⟨pg5, hd5, po5, sa5⟩, by show ∀ z ∈ fl_5, z ≠ "relock"; decide +kernel⟩
  have F_System_locked_items := fun_mk (st := s_System_locked_items) l_System_locked_items c_System_locked_items_ k_System_locked_items
  have G_System_locked_items := fn_mp (P := l.prog) (w := w) (mg := mg) (base := base) F_System_locked_items sc_System_locked_items (w_System_locked_items T)
  have c_System_locked_items : MetM l.prog w K mg base cl 1 6 "locked_items" 0 p_System_locked_items gp_System_locked_items := ⟨⟨f_System_locked_items, _, ["self"], G_System_locked_items, ⟨a_System_locked_items, i_System_locked_items, k_System_locked_items⟩, (KBp.plain (F_System_locked_items.binds (ps := ["self"]) fun _ _ _ _ _ _ us hl => match us, hl with | [_], _ => rfl))⟩, ⟨pg6, hd6, po6, sa6⟩, by show ∀ z ∈ fl_6, z ≠ "locked_items"; decide +kernel⟩
  have F_System_locked_pages := fun_mk (st := s_System_locked_pages) l_System_locked_pages c_System_locked_pages_ k_System_locked_pages
  have G_System_locked_pages := fn_mp (P := l.prog) (w := w) (mg := mg) (base := base) F_System_locked_pages sc_System_locked_pages (w_System_locked_pages T)
  have c_System_locked_pages : MetM l.prog w K mg base cl 1 6 "locked_pages" 0 p_System_locked_pages gp_System_locked_pages := ⟨⟨f_System_locked_pages, _, ["self"], G_System_locked_pages, ⟨a_System_locked_pages, i_System_locked_pages, k_System_locked_pages⟩, (KBp.plain (F_System_locked_pages.binds (ps := ["self"]) fun _ _ _ _ _ _ us hl => match us, hl with | [_], _ => rfl))⟩, ⟨pg6, hd6, po6, sa6⟩, by show ∀ z ∈ fl_6, z ≠ "locked_pages"; decide +kernel⟩
  have F_System_settle := fun_mk (st := s_System_settle) l_System_settle c_System_settle_ k_System_settle
  have G_System_settle := fn_mp (P := l.prog) (w := w) (mg := mg) (base := base) F_System_settle sc_System_settle (w_System_settle T c_Stack_relock c_System_locked_items c_System_locked_pages)
  have c_System_settle : MetM l.prog w K mg base cl 3 6 "settle" 0 p_System_settle gp_System_settle := ⟨⟨f_System_settle, _, ["self"], G_System_settle, ⟨a_System_settle, i_System_settle, k_System_settle⟩, (KBp.plain (F_System_settle.binds (ps := ["self"]) fun _ _ _ _ _ _ us hl => match us, hl with | [_], _ => rfl))⟩, ⟨pg6, hd6, po6, sa6⟩, by show ∀ z ∈ fl_6, z ≠ "settle"; decide +kernel⟩
  have F_sorted_pages := fun_mk (st := s_sorted_pages) l_sorted_pages c_sorted_pages_ k_sorted_pages
  have G_sorted_pages := fn_mp (P := l.prog) (w := w) (mg := mg) (base := base) F_sorted_pages sc_sorted_pages (w_sorted_pages T)
  have c_sorted_pages : CalM l.prog w K mg base cl 1 "sorted_pages" 1 [] p_sorted_pages gp_sorted_pages := ⟨f_sorted_pages, _, ["space"], G_sorted_pages, PySem.W.mg_of X G a_sorted_pages, k_sorted_pages, (KBp.plain (F_sorted_pages.binds (ps := ["space"]) fun _ _ _ _ _ _ us hl => match us, hl with | [_], _ => rfl))⟩
  have F_places := fun_mk (st := s_places) l_places c_places_ k_places
  have G_places := fn_mp (P := l.prog) (w := w) (mg := mg) (base := base) F_places sc_places (w_places T c_sorted_pages)
  have c_places : CalM l.prog w K mg base cl 2 "places" 1 [] p_places gp_places := ⟨f_places, _, ["system"], G_places, PySem.W.mg_of X G a_places, k_places, (KBp.plain (F_places.binds (ps := ["system"]) fun _ _ _ _ _ _ us hl => match us, hl with | [_], _ => rfl))⟩
  have F_tidy := fun_mk (st := s_tidy) l_tidy c_tidy_ k_tidy
  have G_tidy := fn_mp (P := l.prog) (w := w) (mg := mg) (base := base) F_tidy sc_tidy (w_tidy T c_System_settle c_places)
  have c_tidy : CalM l.prog w K mg base cl 4 "tidy" 1 [] p_tidy gp_tidy := ⟨f_tidy, _, ["system"], G_tidy, PySem.W.mg_of X G a_tidy, k_tidy, (KBp.plain (F_tidy.binds (ps := ["system"]) fun _ _ _ _ _ _ us hl => match us, hl with | [_], _ => rfl))⟩
  have F_System_done := fun_mk (st := s_System_done) l_System_done c_System_done_ k_System_done
  have G_System_done := fn_mp (P := l.prog) (w := w) (mg := mg) (base := base) F_System_done sc_System_done (w_System_done T c_tidy)
  have c_System_done : MetM l.prog w K mg base cl 5 6 "done" 0 p_System_done gp_System_done := ⟨⟨f_System_done, _, ["self"], G_System_done, ⟨a_System_done, i_System_done, k_System_done⟩, (KBp.plain (F_System_done.binds (ps := ["self"]) fun _ _ _ _ _ _ us hl => match us, hl with | [_], _ => rfl))⟩, ⟨pg6, hd6, po6, sa6⟩, by show ∀ z ∈ fl_6, z ≠ "done"; decide +kernel⟩
  have G_check_charge := fn_mpD (P := l.prog) (w := w) (mg := mg) (base := base) l_check_charge c_check_charge_ sc_check_charge (w_check_charge T)
  have D_check_charge : FunD K "check_charge" "check_charge" (defArgs s_check_charge) (defBody s_check_charge) (defScope s_check_charge) [.non] [] f_check_charge _ := ⟨⟨_, _, _, _, _, _, _, _, _, _, rfl, l_check_charge, c_check_charge_, .inr ⟨by decide, T_check_charge, _, [.none], _, rfl, d_check_charge, rfl, (.cons rfl .nil)⟩, .inl rfl⟩, k_check_charge⟩
  have c_check_charge_d2 : CalM l.prog w K mg base cl 1 "check_charge" 2 [] p_check_charge gp_check_charge_d2 := ⟨f_check_charge, _, ["system", "spaces", "sizes"], G_check_charge, PySem.W.mg_of X G a_check_charge, k_check_charge, (kbp_dflt 0 D_check_charge (by decide) (fun _ _ => (.cons (.non) .nil)) rfl fun _ _ _ _ _ _ _ us its h1 h2 => match us, its, h1, h2 with | [_, _], [_], _, _ => ⟨_, rfl, rfl⟩)⟩
  have F_check_process := fun_mk (st := s_check_process) l_check_process c_check_process_ k_check_process
  have G_check_process := fn_mp (P := l.prog) (w := w) (mg := mg) (base := base) F_check_process sc_check_process (w_check_process T c_is_integer x_NoProcess)
  have c_check_process : CalM l.prog w K mg base cl 3 "check_process" 2 [] p_check_process gp_check_process := ⟨f_check_process, _, ["system", "process"], G_check_process, PySem.W.mg_of X G a_check_process, k_check_process, (KBp.plain (F_check_process.binds (ps := ["system", "process"]) fun _ _ _ _ _ _ us hl => match us, hl with | [_, _], _ => rfl))⟩
  have F_child_pages := fun_mk (st := s_child_pages) l_child_pages c_child_pages_ k_child_pages
  have G_child_pages := fn_mp (P := l.prog) (w := w) (mg := mg) (base := base) F_child_pages sc_child_pages (w_child_pages T)
  have c_child_pages : CalM l.prog w K mg base cl 1 "child_pages" 2 [] p_child_pages gp_child_pages := ⟨f_child_pages, _, ["system", "process"], G_child_pages, PySem.W.mg_of X G a_child_pages, k_child_pages, (KBp.plain (F_child_pages.binds (ps := ["system", "process"]) fun _ _ _ _ _ _ us hl => match us, hl with | [_, _], _ => rfl))⟩
  have F_new_process := fun_mk (st := s_new_process) l_new_process c_new_process_ k_new_process
  have G_new_process := fn_mp (P := l.prog) (w := w) (mg := mg) (base := base) F_new_process sc_new_process (w_new_process T)
  have c_new_process : CalM l.prog w K mg base cl 1 "new_process" 1 [] p_new_process gp_new_process := ⟨f_new_process, _, ["system"], G_new_process, PySem.W.mg_of X G a_new_process, k_new_process, (KBp.plain (F_new_process.binds (ps := ["system"]) fun _ _ _ _ _ _ us hl => match us, hl with | [_], _ => rfl))⟩
  have F_fork := fun_mk (st := s_fork) l_fork c_fork_ k_fork
  have G_fork := fn_mp (P := l.prog) (w := w) (mg := mg) (base := base) F_fork sc_fork (w_fork T c_System_done c_check_charge_d2 c_check_process c_child_pages c_new_process)
  have c_fork : CalM l.prog w K mg base cl 6 "fork" 2 [] p_fork gp_fork := ⟨f_fork, _, ["system", "process"], G_fork, PySem.W.mg_of X G a_fork, k_fork, (KBp.plain (F_fork.binds (ps := ["system", "process"]) fun _ _ _ _ _ _ us hl => match us, hl with | [_, _], _ => rfl))⟩
  have F_fresh := fun_mk (st := s_fresh) l_fresh c_fresh_ k_fresh
  have G_fresh := fn_mp (P := l.prog) (w := w) (mg := mg) (base := base) F_fresh sc_fresh (w_fresh T c_System_done c_check_process)
  have c_fresh : CalM l.prog w K mg base cl 6 "fresh" 2 [] p_fresh gp_fresh := ⟨f_fresh, _, ["system", "process"], G_fresh, PySem.W.mg_of X G a_fresh, k_fresh, (KBp.plain (F_fresh.binds (ps := ["system", "process"]) fun _ _ _ _ _ _ us hl => match us, hl with | [_, _], _ => rfl))⟩
  have F_leave := fun_mk (st := s_leave) l_leave c_leave_ k_leave
  have G_leave := fn_mp (P := l.prog) (w := w) (mg := mg) (base := base) F_leave sc_leave (w_leave T c_System_done c_check_process)
  have c_leave : CalM l.prog w K mg base cl 6 "leave" 2 [] p_leave gp_leave := ⟨f_leave, _, ["system", "process"], G_leave, PySem.W.mg_of X G a_leave, k_leave, (KBp.plain (F_leave.binds (ps := ["system", "process"]) fun _ _ _ _ _ _ us hl => match us, hl with | [_, _], _ => rfl))⟩
  have F_spawn := fun_mk (st := s_spawn) l_spawn c_spawn_ k_spawn
  have G_spawn := fn_mp (P := l.prog) (w := w) (mg := mg) (base := base) F_spawn sc_spawn (w_spawn T c_System_done c_new_process)
  have c_spawn : CalM l.prog w K mg base cl 6 "spawn" 1 [] p_spawn gp_spawn := ⟨f_spawn, _, ["system"], G_spawn, PySem.W.mg_of X G a_spawn, k_spawn, (KBp.plain (F_spawn.binds (ps := ["system"]) fun _ _ _ _ _ _ us hl => match us, hl with | [_], _ => rfl))⟩
  exact fn_law l_law c_law_ sc_law (w_law T c_System___init___k0 c__law_draw c__law_one c__law_system_right c__law_well c_fork c_fresh c_leave c_now c_processes c_spawn said__law_said ⟨TB (c_law, P_law) (by simp), by simp [cl], (all_cons (fun h => absurd h ne__law_system_right_law) (all_cons (fun _ => rfl) all_nil))⟩)
end LW
set_option linter.all false
set_option maxRecDepth 100000
set_option maxHeartbeats 4000000
namespace LW
open MP PySem L2
theorem draw1 {st : Sto} {n : Nat} {a b c many : Int} (h : st.get n = some (.lst [.int a, .int b, .int c])) (ha : 0 < a) (hm : 0 < many) (hm2 : many < 1073741824) :
    p__law_draw [.ref n, .int many] st = .ok (.int (a % many)) (st.set n (.lst [.int (a / many), .int b, .int c])) := by
  unfold p__law_draw runB b__law_draw
  simp [sSeq, sIf, mTru, mOp, mIx, mVar, mC, slots, Res.bind, Res.toS, ResS.seq, h, oGt, opII, truP, outV, ha, sSet, mB, mCons, mNil, gInt, oMod, hm, sSetIx, oDiv, cDiv, hm2, sRet, ixP, atI, ixN, setP]
/-- what is left as it was: all but n -/
structure But (n : Nat) (st st' : Sto) : Prop where
  nx : st.nx ≤ st'.nx
  eq : ∀ m, m < st.nx → m ≠ n → st'.get m = st.get m
theorem get_set_same {st : Sto} {n : Nat} {o o' : PO} (h : st.get n = some o) : (st.set n o').get n = some o' := by
  rw [Sto.get_set, if_pos rfl, h]; rfl
theorem get_add_old {st : Sto} {n : Nat} {o o' : PO} (h : st.get n = some o) : (st.add o').get n = some o := by
  rw [Sto.get_add, if_neg (Nat.ne_of_lt (Sto.lt_nx h))]; exact h
theorem get_add_new {st : Sto} {o' : PO} : (st.add o').get st.nx = some o' := by
  rw [Sto.get_add, if_pos rfl]
theorem But.refl {n : Nat} {st : Sto} : But n st st := ⟨Nat.le_refl _, fun _ _ _ => rfl⟩
theorem But.trans {n : Nat} {s1 s2 s3 : Sto} (h : But n s1 s2) (k : But n s2 s3) : But n s1 s3 := ⟨Nat.le_trans h.nx k.nx, fun m h1 h2 => (k.eq m (Nat.lt_of_lt_of_le h1 h.nx) h2).trans (h.eq m h1 h2)⟩
theorem But.set {n : Nat} {st : Sto} {o : PO} : But n st (st.set n o) := ⟨by rw [Sto.nx_set]; exact Nat.le_refl _, fun m _ h => by rw [Sto.get_set, if_neg h]⟩
theorem But.add {n : Nat} {st : Sto} {o : PO} : But n st (st.add o) := ⟨by rw [Sto.nx_add]; omega, fun m h1 _ => by rw [Sto.get_add, if_neg (Nat.ne_of_lt h1)]⟩
theorem draw2 {st : Sto} {n : Nat} {a b c many : Int} (h : st.get n = some (.lst [.int a, .int b, .int c])) (ha : ¬ 0 < a) (hb : 0 ≤ b) (hb2 : b < 2147483647) (hc : 0 ≤ c) (hc2 : c < 1099511627776) (hm : 0 < many) (hm2 : many < 1073741824) :
    ∃ d st', p__law_draw [.ref n, .int many] st = .ok (.int d) st' ∧ 0 ≤ d ∧ d < many ∧ st'.get n = some (.lst [.int a, .int b, .int (c + 1)]) ∧ But n st st' := by
  obtain ⟨k, hk, hk7⟩ : ∃ k : Nat, (c + 1) % 7 = (k : Int) ∧ k < 7 := ⟨((c + 1) % 7).toNat, by omega, by omega⟩
  have h1 : (st.set n (.lst [.int a, .int b, .int (c + 1)])).get n = some (.lst [.int a, .int b, .int (c + 1)]) := get_set_same h
  have key : ∀ p : Int, 0 < p → p ≤ 2147483647 → ([.int 2147483647, .int 2147483629, .int 2147483587, .int 2147483579, .int 2147483563, .int 2147483549, .int 2147483543] : List PV)[k]? = some (.int p) →
      ∃ d st', p__law_draw [.ref n, .int many] st = .ok (.int d) st' ∧ 0 ≤ d ∧ d < many ∧ st'.get n = some (.lst [.int a, .int b, .int (c + 1)]) ∧ But n st st' := by
    intro p hp hp2 hpk
    have e1 : ∀ x : Int, 0 ≤ x % p := fun x => Int.emod_nonneg _ (by omega)
    have e2 : ∀ x : Int, x % p < p := fun x => Int.emod_lt_of_pos _ hp
    generalize hL : ([.int 2147483647, .int 2147483629, .int 2147483587, .int 2147483579, .int 2147483563, .int 2147483549, .int 2147483543] : List PV) = L at hpk
    have hLl : L.length = 7 := by rw [← hL]; rfl
    refine ⟨((((b + 7919 * (c + 1) + 1) ^ 5 % p + (c + 1)) * ((b + 7919 * (c + 1) + 1) ^ 5 % p / 1009 + 69621) % p) / 7) % many, (st.set n (.lst [.int a, .int b, .int (c + 1)])).add (.lst L), ?_, Int.emod_nonneg _ (by omega), Int.emod_lt_of_pos _ hm, get_add_old h1, But.set.trans But.add⟩
    have h2 : ((st.set n (.lst [.int a, .int b, .int (c + 1)])).add (.lst L)).get n = some (.lst [.int a, .int b, .int (c + 1)]) := get_add_old h1
    have h3 : ((st.set n (.lst [.int a, .int b, .int (c + 1)])).add (.lst L)).get (st.set n (.lst [.int a, .int b, .int (c + 1)])).nx = some (.lst L) := get_add_new
    have c1 : cPow (b + 7919 * (c + 1) + 1) 5 = true := by
      unfold cPow
      simp
      omega
    have c2 : cMul 7919 (c + 1) = true := by unfold cMul; simp
    have c3 : cMul ((b + 7919 * (c + 1) + 1) ^ 5 % p + (c + 1)) ((b + 7919 * (c + 1) + 1) ^ 5 % p / 1009 + 69621) = true := by
      have := e1 ((b + 7919 * (c + 1) + 1) ^ 5)
      have := e2 ((b + 7919 * (c + 1) + 1) ^ 5)
      generalize (b + 7919 * (c + 1) + 1) ^ 5 % p = z at *
      unfold cMul
      simp
      omega
    have hg : ∀ (q : k < L.length), L[k] = PV.int p := fun q => by
      have := hpk
      rw [List.getElem?_eq_getElem q] at this
      exact Option.some.inj this
    have hk8 : (k : Int) < 7 := by omega
    unfold p__law_draw runB b__law_draw
    simp [hk8, hg, sSeq, sIf, mTru, mOp, mIx, mVar, mC, slots, Res.bind, Res.toS, ResS.seq, h, oGt, opII, truP, outV, ha, sSet, mB, mCons, mNil, gInt, oMod, hm, sSetIx, oDiv, cDiv, hm2, sRet, ixP, atI, ixN, setP, sSkip, oAdd, h1, mLst, mkNew, sz, hL, hLl, h2, h3, hk, hk7, hpk, hp, oMul, oMulI, oPow, c1, c2, c3]
  match k, hk7 with
  | 0, _ => exact key 2147483647 (by decide) (by decide) rfl
  | 1, _ => exact key 2147483629 (by decide) (by decide) rfl
  | 2, _ => exact key 2147483587 (by decide) (by decide) rfl
  | 3, _ => exact key 2147483579 (by decide) (by decide) rfl
  | 4, _ => exact key 2147483563 (by decide) (by decide) rfl
  | 5, _ => exact key 2147483549 (by decide) (by decide) rfl
  | 6, _ => exact key 2147483543 (by decide) (by decide) rfl
/-- a well, drawn from at most m times -/
def Well (st : Sto) (n : Nat) (m : Int) : Prop := ∃ a b c : Int, st.get n = some (.lst [.int a, .int b, .int c]) ∧ 0 ≤ b ∧ b < 2147483647 ∧ 0 ≤ c ∧ c ≤ m
theorem draw {st : Sto} {n : Nat} {m many : Int} (h : Well st n m) (hmm : m < 1099511627776) (hm : 0 < many) (hm2 : many < 1073741824) :
    ∃ d st', p__law_draw [.ref n, .int many] st = .ok (.int d) st' ∧ 0 ≤ d ∧ d < many ∧ Well st' n (m + 1) ∧ But n st st' := by
  obtain ⟨a, b, c, h1, h2, h3, h4, h5⟩ := h
  by_cases ha : 0 < a
  · exact ⟨_, _, draw1 h1 ha hm hm2, Int.emod_nonneg _ (by omega), Int.emod_lt_of_pos _ hm, ⟨_, b, c, get_set_same h1, h2, h3, h4, by omega⟩, But.set⟩
  · obtain ⟨d, st', e1, e2, e3, e4, e5⟩ := draw2 h1 ha h2 h3 h4 (by omega) hm hm2
    exact ⟨d, st', e1, e2, e3, ⟨a, b, c + 1, e4, h2, h3, by omega, by omega⟩, e5⟩
theorem one {st : Sto} {n l : Nat} {m : Int} {xs : List PV} (h : Well st n m) (hmm : m < 1099511627776) (hl : st.get l = some (.lst xs)) (hn : l ≠ n) (h0 : 0 < xs.length) (h1 : xs.length < 1073741824) :
    ∃ (j : Nat) (x : PV) (st' : Sto), xs[j]? = some x ∧ p__law_one [.ref n, .ref l] st = .ok x st' ∧ Well st' n (m + 1) ∧ But n st st' := by
  obtain ⟨d, st', e1, e2, e3, e4, e5⟩ := draw (many := (xs.length : Int)) h hmm (by omega) (by omega)
  obtain ⟨j, hj⟩ : ∃ j : Nat, d = (j : Int) := ⟨d.toNat, by omega⟩
  subst hj
  have hj2 : j < xs.length := by omega
  have hl2 : st'.get l = some (.lst xs) := (e5.eq l (Sto.lt_nx hl) hn).trans hl
  refine ⟨j, xs[j], st', List.getElem?_eq_getElem hj2, ?_, e4, e5⟩
  unfold p__law_one runB b__law_one
  simp [mIx, mVar, slots, Res.bind, Res.toS, outV, mB, mCons, mNil, gLen, lenP, sRet, ixP, atI, ixN, mCall, gp__law_draw, hl, e1, hl2, hj2, e3]
theorem well_new {st : Sto} {cell : Int} : ∃ st', p__law_well [.int cell] st = .ok (.ref st.nx) st' ∧ Well st' st.nx 0 ∧ ∀ n, But n st st' := by
  have hc : cMul cell (if 1000000000000000000 ≤ cell then 1 else 0) = true := by
    unfold cMul
    split <;> simp
  refine ⟨st.add (.lst [.int (cell * (if 1000000000000000000 ≤ cell then 1 else 0)), .int (cell % 2147483647), .int 0]), ?_, ⟨_, _, 0, get_add_new, Int.emod_nonneg _ (by decide), Int.emod_lt_of_pos _ (by decide), by decide, by decide⟩, fun n => But.add⟩
  unfold p__law_well runB b__law_well
  simp [mVar, slots, Res.bind, Res.toS, outV, mB, mCons, mNil, sRet, mLst, mOp, mC, gInt, oMul, oMulI, opII, oGe, oPow, cPow, oMod, mkNew, sz, hc]
end LW
set_option linter.all false
set_option maxRecDepth 100000
set_option maxHeartbeats 8000000
namespace LW
open MP PySem L2
structure SE where
  sp : Nat
  ob : Nat
  ct : Nat
  dk : Nat
  sk : Nat
  mem : Nat
  rw_ : Nat
  o : Nat → Nat
def sysF (E : SE) (step last : Int) : List (Str × PV) := [("frames", .non), ("slots", .non), ("strict", .bl false), ("spaces", .ref E.sp), ("objects", .ref E.ob), ("catalogue", .ref E.ct), ("disks", .ref E.dk), ("step", .int step), ("last_process", .int last), ("last_object", .int 0), ("last_item", .int 0), ("most_locked", .int 0), ("stack", .ref E.sk), ("memory", .ref E.mem)]
def stF (E : SE) : List (Str × PV) := [("row", .ref E.rw_), ("index", .ref (E.o 0)), ("locked", .int 0), ("has_crashed", .bl false), ("has_merged", .bl false), ("distances", .ref (E.o 1)), ("touched", .ref (E.o 2)), ("touches", .ref (E.o 3)), ("since", .ref (E.o 4)), ("outs", .ref (E.o 5)), ("backs", .ref (E.o 6)), ("backs_from", .ref (E.o 7)), ("slots", .ref (E.o 8)), ("dirty", .ref (E.o 9)), ("disks", .ref (E.o 10))]
def kv (al : List (Int × Nat)) : List (PV × PV) := al.map fun p => (.int p.1, .ref p.2)
structure Sys (st : Sto) (E : SE) (s : Nat) (step last : Int) (al : List (Int × Nat)) : Prop where
  a : st.get s = some (.ins 6 (sysF E step last))
  b : st.get E.sp = some (.dct (kv al) false)
  c : st.get E.ob = some (.dct [] false)
  d : st.get E.sk = some (.ins 5 (stF E))
  e : st.get E.rw_ = some (.lst [])
  ne : E.sp ≠ E.ob
  pw : (al.map (·.1)).Pairwise (· < ·)
  le : ∀ p ∈ al, 0 < p.1 ∧ p.1 ≤ last
  em : ∀ p ∈ al, st.get p.2 = some (.dct [] false) ∧ p.2 ≠ E.sp ∧ p.2 ≠ E.ob
theorem isi_b (b : Bool) (st : Sto) : gIsi [.bl b, .ty "bool"] st = some (.bl true, st) := by rfl
theorem new_stack {st : Sto} {n : Nat} (h : st.get n = some (.ins 5 [])) : ∃ E st', p_Stack___init__ [.ref n] st = .ok .non st' ∧ st'.get n = some (.ins 5 (stF E)) ∧ st'.get E.rw_ = some (.lst []) ∧ E.rw_ = st.nx ∧ But n st st' := by
  have hlt := Sto.lt_nx h
  have h1 : ∀ k, (n = st.nx + k) = False := fun k => by simp; omega
  have h2 : (n = st.nx) = False := by simp; omega
  have h3 : ∀ k, (st.nx + k = n) = False := fun k => by simp; omega
  have h4 : (st.nx = n) = False := by simp; omega
  unfold p_Stack___init__ runB b_Stack___init__
  simp (decide := true) [outV, mNil, Res.bind, slots, sSeq, mVar, mC, Res.toS, ResS.seq, sFldM, insOf, putP, mDict0, mkNew, mLst, sz, Sto.get_add, Sto.get_set, Sto.nx_set, Sto.nx_add, Nat.add_assoc, h, h1, h2, h3, h4]
  refine ⟨⟨0, 0, 0, 0, 0, 0, st.nx, fun i => match i with | 0 => st.nx + 1 | 1 => st.nx + 2 | 2 => st.nx + 3 | 3 => st.nx + 4 | 4 => st.nx + 5 | 5 => st.nx + 6 | 6 => st.nx + 7 | 7 => st.nx + 8 | 8 => st.nx + 9 | 9 => st.nx + 10 | _ => st.nx + 11⟩, ?_⟩
  refine ⟨rfl, ?_, rfl, ?_⟩
  · simp [h1, h2, h3, h4]
  · exact ⟨by simp [Sto.nx_set, Sto.nx_add]; omega, fun m q1 q2 => by
      have g1 : ∀ k, (m = st.nx + k) = False := fun k => by simp; omega
      have g2 : (m = st.nx) = False := by simp; omega
      simp [Sto.get_add, Sto.get_set, Sto.nx_set, Sto.nx_add, Nat.add_assoc, q2, g1, g2]⟩
theorem new_mem {st : Sto} {n : Nat} {x : PV} (h : st.get n = some (.ins 4 [])) : ∃ st', p_Memory___init__ [.ref n, x] st = .ok .non st' ∧ But n st st' := by
  have hlt := Sto.lt_nx h
  have h1 : ∀ k, (n = st.nx + k) = False := fun k => by simp; omega
  have h2 : (n = st.nx) = False := by simp; omega
  have h3 : ∀ k, (st.nx + k = n) = False := fun k => by simp; omega
  have h4 : (st.nx = n) = False := by simp; omega
  unfold p_Memory___init__ runB b_Memory___init__
  simp (decide := true) [outV, mNil, Res.bind, slots, sSeq, mVar, mC, Res.toS, ResS.seq, sFldM, insOf, putP, mDict0, mkNew, mLst, sz, Sto.get_add, Sto.get_set, Sto.nx_set, Sto.nx_add, Nat.add_assoc, h, h1, h2, h3, h4]
  exact ⟨by simp [Sto.nx_set, Sto.nx_add]; omega, fun m q1 q2 => by
      have g1 : ∀ k, (m = st.nx + k) = False := fun k => by simp; omega
      have g2 : (m = st.nx) = False := by simp; omega
      simp [Sto.get_add, Sto.get_set, Sto.nx_set, Sto.nx_add, Nat.add_assoc, q2, g1, g2]⟩
theorem make_stack {σ : Sl} {st : Sto} : ∃ E st', mMake 5 p_Stack___init__ gp_Stack___init__ mNil mNil σ st = .ok (.ref st.nx) st' ∧ st'.get st.nx = some (.ins 5 (stF E)) ∧ st'.get E.rw_ = some (.lst []) ∧ E.rw_ = st.nx + 1 ∧ ∀ n, But n st st' := by
  obtain ⟨E, st', e1, e2, e3, e4, e5⟩ := new_stack (st := st.add (.ins 5 [])) (n := st.nx) get_add_new
  refine ⟨E, st', ?_, e2, e3, by rw [e4, Sto.nx_add], fun n => ⟨by have := e5.nx; rw [Sto.nx_add] at this; omega, fun m h1 _ => ?_⟩⟩
  · simp [mMake, mNil, Res.bind, gp_Stack___init__, e1]
  · rw [e5.eq m (by rw [Sto.nx_add]; omega) (by omega), Sto.get_add, if_neg (by omega)]
theorem make_mem {σ : Sl} {st : Sto} {g : MEs} {x : PV} (hg : g σ st = .ok [x] st) : ∃ st', mMake 4 p_Memory___init__ gp_Memory___init__ g mNil σ st = .ok (.ref st.nx) st' ∧ ∀ n, But n st st' := by
  obtain ⟨st', e1, e5⟩ := new_mem (st := st.add (.ins 4 [])) (n := st.nx) (x := x) get_add_new
  refine ⟨st', ?_, fun n => ⟨by have := e5.nx; rw [Sto.nx_add] at this; omega, fun m h1 _ => ?_⟩⟩
  · simp [mMake, mNil, Res.bind, gp_Memory___init__, e1, hg]
  · rw [e5.eq m (by rw [Sto.nx_add]; omega) (by omega), Sto.get_add, if_neg (by omega)]
theorem sIf_f {t : MT} {f g : MS} {σ : Sl} {st : Sto} (h : t σ st = .ok false st) : sIf t f g σ st = g σ st := by unfold sIf; rw [h]; rfl
theorem sSeq_nx {f g : MS} {σ σ1 : Sl} {st st1 : Sto} (h : f σ st = .nx σ1 st1) : sSeq f g σ st = g σ1 st1 := by unfold sSeq; rw [h]; rfl
theorem fld_step {c n : Nat} {f : Str} {fe : ME} {σ : Sl} {st st2 : Sto} {y : PV} {fs : List (Str × PV)} (he : fe σ st = .ok y st2) (h0 : σ[0]? = some (some (.ref n))) (hg : st2.get n = some (.ins c fs)) (hl : fs.length < 900) :
    sFldM c f (mVar 0) fe σ st = .nx σ (st2.set n (.ins c (putP f y fs))) := by
  unfold sFldM
  simp [he, Res.toS, mVar, h0, insOf, hg, hl]
theorem init0 {st : Sto} {n : Nat} (R : MS) : ((sSeq (sIf (mAndT (mTru (mOp oNotN (mVar 1) (mC .non))) (mNotT (mTru (mCall p_is_between gp_is_between (mCons (mVar 1) (mCons (mC (.int 1)) (mCons (mC (.int 64)) mNil)))))))
    (sRaise1 1 "part" (mC (.str "frames")))
    sSkip)
    (sSeq (sIf (mAndT (mTru (mOp oNotN (mVar 2) (mC .non))) (mNotT (mTru (mCall p_is_between gp_is_between (mCons (mVar 2) (mCons (mC (.int 0)) (mCons (mC (.int 256)) mNil)))))))
    (sRaise1 1 "part" (mC (.str "slots")))
    sSkip)
    (sSeq (sIf (mOrT (mNotT (mTru (mB gIsi (mCons (mVar 3) (mCons (mC (.ty "bool")) mNil))))) (mAndT (mTru (mVar 3)) (mOrT (mTru (mOp oIsN (mVar 1) (mC .non))) (mTru (mOp oIsN (mVar 2) (mC .non))))))
    (sRaise1 1 "part" (mC (.str "strict")))
    sSkip)
    R))) : MS) [some (.ref n), some .non, some .non, some (.bl false)] st = R [some (.ref n), some .non, some .non, some (.bl false)] st := by
  rw [sSeq_nx (σ1 := [some (.ref n), some .non, some .non, some (.bl false)]) (st1 := st) (by rw [sIf_f (by rfl)]; rfl)]
  rw [sSeq_nx (σ1 := [some (.ref n), some .non, some .non, some (.bl false)]) (st1 := st) (by rw [sIf_f (by rfl)]; rfl)]
  rw [sSeq_nx (σ1 := [some (.ref n), some .non, some .non, some (.bl false)]) (st1 := st) (by rw [sIf_f (by rfl)]; rfl)]
end LW
set_option linter.all false
set_option maxRecDepth 100000
set_option maxHeartbeats 8000000
namespace LW
open MP PySem L2
theorem init1 {st : Sto} {n : Nat} {σ : Sl} (h : st.get n = some (.ins 6 [])) (hs : σ = [some (.ref n), some .non, some .non, some (.bl false)]) : ∃ st1, (∀ R : MS, ((sSeq (sFldM 6 "frames" (mVar 0) (mVar 1))
    (sSeq (sFldM 6 "slots" (mVar 0) (mVar 2))
    (sSeq (sFldM 6 "strict" (mVar 0) (mVar 3))
    (sSeq (sFldM 6 "spaces" (mVar 0) mDict0)
    (sSeq (sFldM 6 "objects" (mVar 0) mDict0)
    (sSeq (sFldM 6 "catalogue" (mVar 0) mDict0)
    (sSeq (sFldM 6 "disks" (mVar 0) mDict0)
    (sSeq (sFldM 6 "step" (mVar 0) (mC (.int 0)))
    (sSeq (sFldM 6 "last_process" (mVar 0) (mC (.int 0)))
    (sSeq (sFldM 6 "last_object" (mVar 0) (mC (.int 0)))
    (sSeq (sFldM 6 "last_item" (mVar 0) (mC (.int 0)))
    (sSeq (sFldM 6 "most_locked" (mVar 0) (mC (.int 0)))
    R)))))))))))) : MS) σ st = R σ st1) ∧
    st1.get n = some (.ins 6 [("frames", .non), ("slots", .non), ("strict", .bl false), ("spaces", .ref st.nx), ("objects", .ref (st.nx + 1)), ("catalogue", .ref (st.nx + 2)), ("disks", .ref (st.nx + 3)), ("step", .int 0), ("last_process", .int 0), ("last_object", .int 0), ("last_item", .int 0), ("most_locked", .int 0)]) ∧
    st1.get st.nx = some (.dct [] false) ∧ st1.get (st.nx + 1) = some (.dct [] false) ∧ st1.nx = st.nx + 4 ∧ But n st st1 := by
  have hlt := Sto.lt_nx h
  have h1 : ∀ k, (n = st.nx + k) = False := fun k => by simp; omega
  have h2 : (n = st.nx) = False := by simp; omega
  have h3 : ∀ k, (st.nx + k = n) = False := fun k => by simp; omega
  have h4 : (st.nx = n) = False := by simp; omega
  have i0 : σ[0]? = some (some (.ref n)) := by rw [hs]; rfl
  have i1 : σ[1]? = some (some .non) := by rw [hs]; rfl
  have i2 : σ[2]? = some (some .non) := by rw [hs]; rfl
  have i3 : σ[3]? = some (some (.bl false)) := by rw [hs]; rfl
  clear hs
  refine ⟨_, fun R => by
    simp (decide := true) [sSeq, mVar, mC, Res.toS, ResS.seq, sFldM, insOf, putP, mDict0, mkNew, Sto.get_add, Sto.get_set, Sto.nx_set, Sto.nx_add, Nat.add_assoc, h, h1, h2, h3, h4, i0, i1, i2, i3]
    rfl, ?_, ?_, ?_, ?_, ?_⟩
  · simp (decide := true) [Sto.get_add, Sto.get_set, Sto.nx_set, Sto.nx_add, Nat.add_assoc, h, h1, h2, h3, h4]
  · simp (decide := true) [Sto.get_add, Sto.get_set, Sto.nx_set, Sto.nx_add, Nat.add_assoc, h, h1, h2, h3, h4]
  · simp (decide := true) [Sto.get_add, Sto.get_set, Sto.nx_set, Sto.nx_add, Nat.add_assoc, h, h1, h2, h3, h4]
  · simp (decide := true) [Sto.get_add, Sto.get_set, Sto.nx_set, Sto.nx_add, Nat.add_assoc, h, h1, h2, h3, h4]
  · exact ⟨by simp [Sto.nx_set, Sto.nx_add]; omega, fun m q1 q2 => by
      have g1 : ∀ k, (m = st.nx + k) = False := fun k => by simp; omega
      have g2 : (m = st.nx) = False := by simp; omega
      simp [Sto.get_add, Sto.get_set, Sto.nx_set, Sto.nx_add, Nat.add_assoc, q2, g1, g2]⟩
theorem sys_new {σ : Sl} {st : Sto} : ∃ E st', mMake 6 p_System___init__ gp_System___init___k0 mNil mNil σ st = .ok (.ref st.nx) st' ∧ Sys st' E st.nx 0 0 [] ∧ E.sp = st.nx + 1 ∧ ∀ n, But n st st' := by
  have h0 : (st.add (.ins 6 [])).get st.nx = some (.ins 6 []) := get_add_new
  have n0 : (st.add (.ins 6 [])).nx = st.nx + 1 := Sto.nx_add _ _
  obtain ⟨st1, r1, g1, g2, g3, g4, b1⟩ := init1 (st := st.add (.ins 6 [])) (n := st.nx) (σ := [some (.ref st.nx), some .non, some .non, some (.bl false)]) h0 rfl
  rw [n0] at g1 g2 g3 g4
  obtain ⟨E1, st2, e2, k1, k2, k3, b2⟩ := make_stack (σ := [some (.ref st.nx), some .non, some .non, some (.bl false)]) (st := st1)
  have q1 := (b2 0).eq
  have l1 : st.nx < st1.nx := by omega
  have w1 : st2.get st.nx = st1.get st.nx := (b2 (st1.nx + 1)).eq _ l1 (by omega)
  have f1 := fld_step (f := "stack") (fe := mMake 5 p_Stack___init__ gp_Stack___init__ mNil mNil) (σ := [some (.ref st.nx), some .non, some .non, some (.bl false)]) e2 rfl (w1.trans g1) (by simp)
  obtain ⟨st4, e4, b4⟩ := make_mem (σ := [some (.ref st.nx), some .non, some .non, some (.bl false)]) (st := st2.set st.nx (.ins 6 (putP "stack" (.ref st1.nx) [("frames", .non), ("slots", .non), ("strict", .bl false), ("spaces", .ref (st.nx + 1)), ("objects", .ref (st.nx + 1 + 1)), ("catalogue", .ref (st.nx + 1 + 2)), ("disks", .ref (st.nx + 1 + 3)), ("step", .int 0), ("last_process", .int 0), ("last_object", .int 0), ("last_item", .int 0), ("most_locked", .int 0)]))) (g := mCons (mVar 0) mNil) (x := .ref st.nx) rfl
  have x2 := (b2 0).nx
  have x4 := (b4 0).nx
  rw [Sto.nx_set] at x4
  have w2 : st4.get st.nx = _ := ((b4 (st2.nx + 1)).eq st.nx (by rw [Sto.nx_set]; omega) (by omega)).trans (get_set_same (w1.trans g1))
  have f2 := fld_step (f := "memory") (fe := mMake 4 p_Memory___init__ gp_Memory___init__ (mCons (mVar 0) mNil) mNil) (σ := [some (.ref st.nx), some .non, some .non, some (.bl false)]) e4 rfl w2 (by simp (decide := true) [putP])
  rw [show ∀ l, putP "memory" (.ref (st2.set st.nx (.ins 6 l)).nx) (putP "stack" (.ref st1.nx) [("frames", .non), ("slots", .non), ("strict", .bl false), ("spaces", .ref (st.nx + 1)), ("objects", .ref (st.nx + 1 + 1)), ("catalogue", .ref (st.nx + 1 + 2)), ("disks", .ref (st.nx + 1 + 3)), ("step", .int 0), ("last_process", .int 0), ("last_object", .int 0), ("last_item", .int 0), ("most_locked", .int 0)]) = sysF { sp := st.nx + 1, ob := st.nx + 1 + 1, ct := st.nx + 1 + 2, dk := st.nx + 1 + 3, sk := st1.nx, mem := st2.nx, rw_ := E1.rw_, o := E1.o } 0 0 from fun l => by simp (decide := true) [putP, sysF, Sto.nx_set]] at f2
  have old : ∀ m o, m ≠ st.nx → st1.get m = some o → st4.get m = some o := fun m o hm h => by
    have lm := Sto.lt_nx h
    rw [(b4 (st2.nx + 1)).eq m (by rw [Sto.nx_set]; omega) (by omega), Sto.get_set, if_neg hm, (b2 (st1.nx + 1)).eq m lm (by omega)]
    exact h
  have old2 : ∀ m o, m ≠ st.nx → st2.get m = some o → st4.get m = some o := fun m o hm h => by
    have lm := Sto.lt_nx h
    rw [(b4 (st2.nx + 1)).eq m (by rw [Sto.nx_set]; omega) (by omega), Sto.get_set, if_neg hm]
    exact h
  refine ⟨{ sp := st.nx + 1, ob := st.nx + 1 + 1, ct := st.nx + 1 + 2, dk := st.nx + 1 + 3, sk := st1.nx, mem := st2.nx, rw_ := E1.rw_, o := E1.o }, st4.set st.nx (.ins 6 (sysF { sp := st.nx + 1, ob := st.nx + 1 + 1, ct := st.nx + 1 + 2, dk := st.nx + 1 + 3, sk := st1.nx, mem := st2.nx, rw_ := E1.rw_, o := E1.o } 0 0)), ?_, ⟨?_, ?_, ?_, ?_, ?_, by show st.nx + 1 ≠ st.nx + 1 + 1; omega, .nil, fun _ h => (nomatch h), fun _ h => (nomatch h)⟩, rfl, fun n => ⟨by rw [Sto.nx_set]; omega, fun m h1 h2 => ?_⟩⟩
  · unfold mMake
    have e : p_System___init__ [.ref st.nx, .non, .non, .bl false] (st.add (.ins 6 [])) = .ok .non (st4.set st.nx (.ins 6 (sysF { sp := st.nx + 1, ob := st.nx + 1 + 1, ct := st.nx + 1 + 2, dk := st.nx + 1 + 3, sk := st1.nx, mem := st2.nx, rw_ := E1.rw_, o := E1.o } 0 0))) := by
      unfold p_System___init__ runB b_System___init__
      rw [show slots 4 [.ref st.nx, .non, .non, .bl false] = [some (.ref st.nx), some .non, some .non, some (.bl false)] from rfl, init0, r1, sSeq_nx f1, f2]
      rfl
    simp [mNil, Res.bind, gp_System___init___k0, e]
  · exact get_set_same w2
  · rw [Sto.get_set, if_neg (by show ¬ st.nx + 1 = st.nx; omega)]
    exact old _ _ (by show ¬ st.nx + 1 = st.nx; omega) g2
  · rw [Sto.get_set, if_neg (by show ¬ st.nx + 1 + 1 = st.nx; omega)]
    exact old _ _ (by show ¬ st.nx + 1 + 1 = st.nx; omega) g3
  · rw [Sto.get_set, if_neg (by show ¬ st1.nx = st.nx; omega)]
    exact old2 _ _ (by show ¬ st1.nx = st.nx; omega) k1
  · rw [Sto.get_set, if_neg (by show ¬ E1.rw_ = st.nx; omega)]
    exact old2 _ _ (by show ¬ E1.rw_ = st.nx; omega) k2
  · rw [Sto.get_set, if_neg (by omega), (b4 (st2.nx + 1)).eq m (by rw [Sto.nx_set]; omega) (by omega), Sto.get_set, if_neg (by omega), (b2 (st1.nx + 1)).eq m (by omega) (by omega), b1.eq m (by omega) (by omega), Sto.get_add, if_neg (by omega)]
end LW
set_option linter.all false
set_option maxRecDepth 100000
set_option maxHeartbeats 8000000
namespace LW
open MP PySem L2
theorem sys_last (E : SE) (a b : Int) : (sysF E a b).lookup ("last_process" : Str) = some (.int b) := by rfl
theorem sys_spaces (E : SE) (a b : Int) : (sysF E a b).lookup ("spaces" : Str) = some (.ref E.sp) := by rfl
theorem sys_objects (E : SE) (a b : Int) : (sysF E a b).lookup ("objects" : Str) = some (.ref E.ob) := by rfl
theorem sys_stack (E : SE) (a b : Int) : (sysF E a b).lookup ("stack" : Str) = some (.ref E.sk) := by rfl
theorem sys_step (E : SE) (a b : Int) : (sysF E a b).lookup ("step" : Str) = some (.int a) := by rfl
theorem sys_strict (E : SE) (a b : Int) : (sysF E a b).lookup ("strict" : Str) = some (.bl false) := by rfl
theorem sys_most (E : SE) (a b : Int) : (sysF E a b).lookup ("most_locked" : Str) = some (.int 0) := by rfl
theorem sys_putLast (E : SE) (a b c : Int) : putP "last_process" (.int c) (sysF E a b) = sysF E a c := by simp (decide := true) [sysF, putP]
theorem sys_putStep (E : SE) (a b c : Int) : putP "step" (.int c) (sysF E a b) = sysF E c b := by simp (decide := true) [sysF, putP]
theorem sys_putMost (E : SE) (a b : Int) : putP "most_locked" (.int 0) (sysF E a b) = sysF E a b := by simp (decide := true) [sysF, putP]
theorem sys_len (E : SE) (a b : Int) : (sysF E a b).length < 900 := by simp [sysF]
theorem fld_get {c n : Nat} {f : Str} {i : Nat} {σ : Sl} {st : Sto} {fs : List (Str × PV)} {v : PV} (h0 : σ[i]? = some (some (.ref n))) (hg : st.get n = some (.ins c fs)) (hl : fs.lookup f = some v) : mFld c f (mVar i) σ st = .ok v st := by
  unfold mFld
  simp [mVar, h0, Res.bind, insOf, hg, hl]
theorem p_now_at {st : Sto} {E : SE} {s : Nat} {step last : Int} {al : List (Int × Nat)} (S : Sys st E s step last al) : p_now [.ref s] st = .ok (.int step) st := by
  unfold p_now runB b_now sRet
  rw [fld_get (n := s) (v := .int step) rfl S.a (sys_step _ _ _)]
  rfl
theorem kv_fit (al : List (Int × Nat)) (i : Int) : kfit (kv al) false (.int i) = true := by
  cases al with
  | nil => rfl
  | cons p r => simp [kv, kfit, kindK]
theorem kv_put {al : List (Int × Nat)} {i : Int} (h : ∀ p ∈ al, p.1 < i) (v : PV) : dputP (kv al) (.int i) v = kv al ++ [(.int i, v)] := by
  unfold dputP
  rw [if_neg]
  intro z
  obtain ⟨q, hq, e⟩ := List.any_eq_true.mp z
  obtain ⟨p, hp, rfl⟩ := List.mem_map.mp hq
  have := h p hp
  simp at e
  omega
theorem new_process {st : Sto} {E : SE} {s : Nat} {step last : Int} {al : List (Int × Nat)} (S : Sys st E s step last al) (hs : s ≠ E.sp) (hl : al.length < 1000) (h0 : 0 ≤ last) :
    ∃ st', p_new_process [.ref s] st = .ok (.int (last + 1)) st' ∧ Sys st' E s step (last + 1) (al ++ [(last + 1, st.nx)]) ∧ st.nx ≤ st'.nx ∧ ∀ m, m < st.nx → m ≠ s → m ≠ E.sp → st'.get m = st.get m := by
  have a1 : (st.set s (.ins 6 (sysF E step (last + 1)))).get s = some (.ins 6 (sysF E step (last + 1))) := get_set_same S.a
  have a2 : ((st.set s (.ins 6 (sysF E step (last + 1)))).add (.dct [] false)).get s = some (.ins 6 (sysF E step (last + 1))) := get_add_old a1
  have b1 : (st.set s (.ins 6 (sysF E step (last + 1)))).get E.sp = some (.dct (kv al) false) := by rw [Sto.get_set, if_neg (Ne.symm hs)]; exact S.b
  have b2 : ((st.set s (.ins 6 (sysF E step (last + 1)))).add (.dct [] false)).get E.sp = some (.dct (kv al) false) := get_add_old b1
  have nx1 : (st.set s (.ins 6 (sysF E step (last + 1)))).nx = st.nx := Sto.nx_set _ _ _
  have hlt : s < st.nx := Sto.lt_nx S.a
  have hsp : E.sp < st.nx := Sto.lt_nx S.b
  have old : ∀ m, m < st.nx → m ≠ s → m ≠ E.sp → (((st.set s (.ins 6 (sysF E step (last + 1)))).add (.dct [] false)).set E.sp (.dct (kv al ++ [(.int (last + 1), .ref st.nx)]) false)).get m = st.get m := fun m h1 h2 h3 => by
    rw [Sto.get_set, if_neg h3, Sto.get_add, if_neg (by rw [nx1]; omega), Sto.get_set, if_neg h2]
  have oldS : ∀ m o, m ≠ s → m ≠ E.sp → st.get m = some o → (((st.set s (.ins 6 (sysF E step (last + 1)))).add (.dct [] false)).set E.sp (.dct (kv al ++ [(.int (last + 1), .ref st.nx)]) false)).get m = some o := fun m o h2 h3 h => (old m (Sto.lt_nx h) h2 h3).trans h
  refine ⟨((st.set s (.ins 6 (sysF E step (last + 1)))).add (.dct [] false)).set E.sp (.dct (kv al ++ [(.int (last + 1), .ref st.nx)]) false), ?_, ⟨?_, ?_, ?_, ?_, ?_, S.ne, ?_, ?_, ?_⟩, ?_, old⟩
  · have a3 : (((st.set s (.ins 6 (sysF E step (last + 1)))).add (.dct [] false)).set E.sp (.dct (kv al ++ [(.int (last + 1), .ref st.nx)]) false)).get s = some (.ins 6 (sysF E step (last + 1))) := by rw [Sto.get_set, if_neg hs]; exact a2
    have len : (kv al).length + 1 ≤ 16777216 := by unfold kv; rw [List.length_map]; omega
    unfold p_new_process runB b_new_process
    simp [slots, sSeq, sFldAdd, mVar, mC, Res.toS, ResS.seq, insOf, S.a, sys_last, sys_len, sys_putLast, sSetIx, mDict0, mkNew, mFld, Res.bind, a1, a2, b1, b2, a3, sys_spaces, setP, kv_fit, kv_put (al := al) (i := last + 1) (fun p hp => by have := (S.le p hp).2; omega), sz, len, nx1, sRet, outV]
  · rw [Sto.get_set, if_neg hs]; exact a2
  · rw [get_set_same b2]; simp [kv]
  · by_cases q : E.ob = s
    · have := S.c; rw [q, S.a] at this; cases this
    · exact oldS _ _ q (Ne.symm S.ne) S.c
  · by_cases q : E.sk = s
    · have := S.d; rw [q, S.a] at this; cases this
    · refine oldS _ _ q (fun q => ?_) S.d
      have := S.d; rw [q, S.b] at this; cases this
  · refine oldS _ _ (fun q => ?_) (fun q => ?_) S.e
    · have := S.e; rw [q, S.a] at this; cases this
    · have := S.e; rw [q, S.b] at this; cases this
  · rw [List.map_append]
    refine List.pairwise_append.mpr ⟨S.pw, by simp, fun x hx y hy => ?_⟩
    obtain ⟨p, hp, rfl⟩ := List.mem_map.mp hx
    have := (S.le p hp).2
    simp at hy
    omega
  · intro p hp
    rcases List.mem_append.mp hp with hp | hp
    · have := S.le p hp; omega
    · simp at hp; subst hp; show 0 < last + 1 ∧ last + 1 ≤ last + 1; omega
  · intro p hp
    rcases List.mem_append.mp hp with hp | hp
    · obtain ⟨h1, h2, h3⟩ := S.em p hp
      refine ⟨oldS _ _ (fun q => ?_) h2 h1, h2, h3⟩
      rw [q, S.a] at h1; cases h1
    · simp at hp
      subst hp
      have hob : E.ob < st.nx := Sto.lt_nx S.c
      refine ⟨?_, by show st.nx ≠ E.sp; omega, by show st.nx ≠ E.ob; omega⟩
      rw [Sto.get_set, if_neg (by show ¬ st.nx = E.sp; omega)]
      have := get_add_new (st := st.set s (.ins 6 (sysF E step (last + 1)))) (o' := .dct [] false)
      rw [nx1] at this
      exact this
  · rw [Sto.nx_set, Sto.nx_add, nx1]; omega
end LW
set_option linter.all false
set_option maxRecDepth 100000
set_option maxHeartbeats 8000000
namespace LW
open MP PySem L2
def ids (al : List (Int × Nat)) : List PV := al.map fun p => .int p.1
theorem kv_ints : ∀ al : List (Int × Nat), intsOf ((kv al).map (·.1)) = some (al.map (·.1))
  | [] => rfl
  | p :: r => by
    have := kv_ints r
    simp [kv, intsOf] at this ⊢
    simp [this]
theorem kv_keys (al : List (Int × Nat)) : ((kv al).all fun p => (keyK p.1).isSome) = true := by
  simp [kv, keyK]
theorem kv_sort {al : List (Int × Nat)} (h : (al.map (·.1)).Pairwise (· < ·)) : sortI (al.map (·.1)) = al.map (·.1) :=
  (sortI_uniq (List.Perm.refl _) (h.imp fun h => Int.le_of_lt h)).symm
theorem srt_at {st : Sto} {E : SE} {s : Nat} {step last : Int} {al : List (Int × Nat)} (S : Sys st E s step last al) (hl : al.length < 64) :
    gOr (gNewL srtL) (gNewL srtD) [.ref E.sp] st = some (.ref st.nx, st.add (.lst (ids al))) := by
  have e1 : gNewL srtL [.ref E.sp] st = none := by simp [gNewL, srtL, lstOf, S.b]
  have e2 : srtD [.ref E.sp] st = some (ids al) := by
    have e3 : keysD (.ref E.sp) st = some (kv al) := by
      unfold keysD
      simp only [S.b, kv_keys, if_true]
    have e4 : (kv al).length < 64 := by unfold kv; rw [List.length_map]; exact hl
    unfold srtD
    simp only [e3, Option.bind_some, e4, if_true, kv_ints, Option.map_some, kv_sort S.pw]
    simp [ids]
  unfold gOr
  rw [e1]
  simp [gNewL, e2]
theorem processes_at {st : Sto} {E : SE} {s : Nat} {step last : Int} {al : List (Int × Nat)} (S : Sys st E s step last al) (hl : al.length < 64) :
    p_processes [.ref s] st = .ok (.ref st.nx) (st.add (.lst (ids al))) := by
  unfold p_processes runB b_processes sRet
  simp [mB, mCons, mNil, Res.bind, fld_get (n := s) (v := .ref E.sp) (σ := slots 1 [.ref s]) (i := 0) rfl S.a (sys_spaces _ _ _), srt_at S hl, Res.toS, outV]
end LW
set_option linter.all false
set_option maxRecDepth 100000
set_option maxHeartbeats 8000000
namespace LW
open MP PySem L2
theorem sortI_nil : sortI [] = [] := by unfold sortI; simp
theorem sorted_pages_nil {st : Sto} {d : Nat} (h : st.get d = some (.dct [] false)) : p_sorted_pages [.ref d] st = .ok (.ref (st.nx + 1)) ((st.add (.lst [])).add (.lst [])) := by
  unfold p_sorted_pages runB b_sorted_pages
  have e : gOr (gNewL srtL) (gNewL srtD) [.ref d] st = some (.ref st.nx, st.add (.lst [])) := by
    simp [gOr, gNewL, srtL, srtD, lstOf, keysD, h, intsOf, sortI_nil]
  simp [slots, sRet, mLc, mwE, mB, mCons, mNil, mVar, Res.bind, e, walkV, Sto.get_add, Sto.nx_add, cpGo, chk, Res.toS, outV, wipeP]
theorem forGo_inv {gd : Gd} {g : MG} {b : MS} (P : Sl → Sto → Prop) (hc : ∀ σ st, P σ st → chk gd st = true) : ∀ (xs : List PV) (hs : ∀ x ∈ xs, ∀ σ st, P σ st → ∃ σ2 σ3 st3, g x σ = some σ2 ∧ b σ2 st = .nx σ3 st3 ∧ P σ3 st3) (σ : Sl) (st : Sto), P σ st → ∃ σ' st', forGo gd g b xs σ st = .nx σ' st' ∧ P σ' st'
  | [], _, σ, st, h => ⟨σ, st, by unfold forGo; rw [if_pos (hc σ st h)], h⟩
  | x :: xs, hs, σ, st, h => by
    obtain ⟨σ2, σ3, st3, e1, e2, h3⟩ := hs x List.mem_cons_self σ st h
    obtain ⟨σ', st', e, h'⟩ := forGo_inv P hc xs (fun y hy => hs y (List.mem_cons_of_mem _ hy)) σ3 st3 h3
    refine ⟨σ', st', ?_, h'⟩
    unfold forGo
    rw [if_pos (hc σ st h), e1]
    show (b σ2 st).loop _ = _
    rw [e2]
    exact e
end LW
set_option linter.all false
set_option maxRecDepth 100000
set_option maxHeartbeats 8000000
namespace LW
open MP PySem L2
/-- all that was is kept -/
structure Keep (st st' : Sto) : Prop where
  nx : st.nx ≤ st'.nx
  eq : ∀ m, m < st.nx → st'.get m = st.get m
theorem Keep.refl {st : Sto} : Keep st st := ⟨Nat.le_refl _, fun _ _ => rfl⟩
theorem Keep.trans {s1 s2 s3 : Sto} (h : Keep s1 s2) (k : Keep s2 s3) : Keep s1 s3 := ⟨Nat.le_trans h.nx k.nx, fun m h1 => (k.eq m (Nat.lt_of_lt_of_le h1 h.nx)).trans (h.eq m h1)⟩
theorem Keep.add {st : Sto} {o : PO} : Keep st (st.add o) := ⟨by rw [Sto.nx_add]; omega, fun m h1 => by rw [Sto.get_add, if_neg (Nat.ne_of_lt h1)]⟩
theorem Keep.get {st st' : Sto} (k : Keep st st') {m : Nat} {o : PO} (h : st.get m = some o) : st'.get m = some o := (k.eq m (Sto.lt_nx h)).trans h
theorem Sys.keep {st st' : Sto} {E : SE} {s : Nat} {step last : Int} {al : List (Int × Nat)} (S : Sys st E s step last al) (k : Keep st st') : Sys st' E s step last al :=
  ⟨k.get S.a, k.get S.b, k.get S.c, k.get S.d, k.get S.e, S.ne, S.pw, S.le, fun p hp => let ⟨h1, h2, h3⟩ := S.em p hp; ⟨k.get h1, h2, h3⟩⟩
end LW
set_option linter.all false
set_option maxRecDepth 100000
set_option maxHeartbeats 8000000
namespace LW
open MP PySem L2
theorem kv_get : ∀ {al : List (Int × Nat)} {i : Int} {d : Nat}, (al.map (·.1)).Pairwise (· < ·) → (i, d) ∈ al → dgetP (kv al) (.int i) = some (.ref d)
  | [], _, _, _, h => by cases h
  | p :: r, i, d, pw, h => by
    unfold dgetP kv
    rw [List.map_cons, List.find?_cons]
    rcases List.mem_cons.mp h with e | e
    · subst e
      simp
    · have h1 : p.1 < i := (List.pairwise_cons.mp pw).1 i (List.mem_map.mpr ⟨_, e, rfl⟩)
      have h2 : ¬ p.1 = i := by omega
      have := kv_get (List.pairwise_cons.mp pw).2 e
      unfold dgetP kv at this
      simp [h2]
      simpa using this
theorem places_at {st : Sto} {E : SE} {s : Nat} {step last : Int} {al : List (Int × Nat)} (S : Sys st E s step last al) (hl : al.length < 64) :
    ∃ f st', p_places [.ref s] st = .ok (.ref f) st' ∧ st'.get f = some (.lst []) ∧ Keep st st' := by
  have S1 := S.keep (Keep.add (o := .lst []))
  have S2 := S1.keep (Keep.add (o := .lst (ids al)))
  have f0 : (st.add (.lst [])).get st.nx = some (.lst []) := get_add_new
  have f1 : ((st.add (.lst [])).add (.lst (ids al))).get st.nx = some (.lst []) := get_add_old f0
  have g1 : ((st.add (.lst [])).add (.lst (ids al))).get (st.add (.lst [])).nx = some (.lst (ids al)) := get_add_new
  obtain ⟨σ', st', e, ⟨hσ, hf, hg, hk⟩⟩ := forGo_inv (gd := [((st.add (.lst [])).nx, .lst (ids al))]) (g := gN 2) (b := sExpr (mBM tpL gExtend (mVar 1) (mCons (mLc (mwE (mCall p_sorted_pages gp_sorted_pages (mCons (mIx (mFld 6 "spaces" (mVar 0)) (mVar 2)) mNil))) (gT 2 (gsCons (gN 3) (gsCons (gN 4) gsNil))) mtYes (mTup (mCons (mTup (mCons (mVar 2) (mCons (mVar 3) mNil))) (mCons (mVar 4) mNil))) [3, 4]) mNil)))
    (fun σ s2 => (∃ v, σ = [some (.ref s), some (.ref st.nx), v, none, none]) ∧ s2.get st.nx = some (.lst []) ∧ s2.get (st.add (.lst [])).nx = some (.lst (ids al)) ∧ Keep ((st.add (.lst [])).add (.lst (ids al))) s2)
    (fun σ s2 ⟨_, _, h, _⟩ => by simp [chk, h]) (ids al) (fun x hx σ s2 ⟨⟨v, hσ⟩, hf, hg, hk⟩ => by
      obtain ⟨p, hp, rfl⟩ := List.mem_map.mp hx
      obtain ⟨em, h2, h3⟩ := S2.em p hp
      have em2 := hk.get em
      have S3 := S2.keep hk
      have sp := sorted_pages_nil em2
      have k4 : Keep s2 (((s2.add (.lst [])).add (.lst [])).add (.lst [])) := (Keep.add.trans Keep.add).trans Keep.add
      have y1 : ((s2.add (.lst [])).add (.lst [])).get (s2.nx + 1) = some (.lst []) := by
        have := get_add_new (st := s2.add (.lst [])) (o' := .lst [])
        rw [Sto.nx_add] at this
        exact this
      have y2 : (((s2.add (.lst [])).add (.lst [])).add (.lst [])).get (s2.nx + 1) = some (.lst []) := get_add_old y1
      have y3 : (((s2.add (.lst [])).add (.lst [])).add (.lst [])).get (s2.nx + 2) = some (.lst []) := by
        have := get_add_new (st := (s2.add (.lst [])).add (.lst [])) (o' := .lst [])
        rw [Sto.nx_add, Sto.nx_add] at this
        exact this
      have kg := kv_get S.pw (show (p.1, p.2) ∈ al from hp)
      subst hσ
      have hf4 := k4.get hf
      refine ⟨[some (.ref s), some (.ref st.nx), some (.int p.1), none, none], [some (.ref s), some (.ref st.nx), some (.int p.1), none, none], (((s2.add (.lst [])).add (.lst [])).add (.lst [])).set st.nx (.lst []), rfl, ?_, ⟨_, rfl⟩, get_set_same hf4, ?_, ?_⟩
      · simp [sExpr, mBM, mVar, Res.bind, Res.toS, tpL, hf, mCons, mNil, mLc, mwE, mCall, gp_sorted_pages, mIx, mFld, insOf, S3.a, sys_spaces, ixP, S3.b, kv_fit, kg, sp, walkV, y1, Sto.nx_add, cpGo, chk, y2, y3, hf4, gExtend, ownL, sz, Nat.add_assoc, wipeP]
      · rw [Sto.get_set, if_neg (by rw [Sto.nx_add]; omega)]
        exact k4.get hg
      · refine hk.trans ⟨by rw [Sto.nx_set]; exact k4.nx, fun m hm => ?_⟩
        by_cases q : m = st.nx
        · rw [q, get_set_same hf4]; exact hf.symm
        · rw [Sto.get_set, if_neg q]; exact k4.eq m hm)
    [some (.ref s), some (.ref st.nx), none, none, none] _ ⟨⟨none, rfl⟩, f1, g1, Keep.refl⟩
  obtain ⟨v, rfl⟩ := hσ
  refine ⟨st.nx, st', ?_, hf, (Keep.add.trans Keep.add).trans hk⟩
  have srt := srt_at S1 hl
  unfold p_places runB b_places
  simp [slots, sSeq, sSet, mLst, mNil, Res.bind, Res.toS, ResS.seq, sz, mkNew, sFor, mwE, mB, mCons, mFld, mVar, insOf, S1.a, sys_spaces, srt, walkV, g1, e, sRet, outV]
end LW
set_option linter.all false
set_option maxRecDepth 100000
set_option maxHeartbeats 8000000
namespace LW
open MP PySem L2
/-- st2 is st with the dicts of ds locked -/
structure Lkd (ds : List Nat) (st st2 : Sto) : Prop where
  nx : st2.nx = st.nx
  ot : ∀ m, m ∉ ds → st2.get m = st.get m
  on : ∀ d ∈ ds, ∀ kvs lk, st.get d = some (.dct kvs lk) → st2.get d = some (.dct kvs true)
theorem lockE_at {α : Type} {R : α → Sto → Prop} {f : Sto → Res α} : ∀ (ds : List Nat) (st : Sto), (∀ d ∈ ds, ∃ kvs lk, st.get d = some (.dct kvs lk)) → (∀ st2, Lkd ds st st2 → ∃ v st3, f st2 = .ok v st3 ∧ Keep st2 st3 ∧ R v st3) →
    (∀ v s n kvs, R v s → (∃ lk, s.get n = some (.dct kvs lk)) → R v (s.set n (.dct kvs false))) → ∃ v st3, lockE f ds st = .ok v st3 ∧ Keep st st3 ∧ R v st3
  | [], st, _, hf, _ => by
    obtain ⟨v, st3, e, k, r⟩ := hf st ⟨rfl, fun _ _ => rfl, fun _ h => (nomatch h)⟩
    exact ⟨v, st3, by unfold lockE; exact e, k, r⟩
  | n :: ds, st, hd, hf, hR => by
    obtain ⟨kvs, lk, e⟩ := hd n List.mem_cons_self
    cases lk with
    | true =>
      obtain ⟨v, st3, e1, k, r⟩ := lockE_at ds st (fun d h => hd d (List.mem_cons_of_mem _ h)) (fun st2 L => hf st2 ⟨L.nx, fun m h => L.ot m (fun q => h (List.mem_cons_of_mem _ q)), fun d h kv lk q => by
        by_cases z : d ∈ ds
        · exact L.on d z kv lk q
        · have : d = n := by
            rcases List.mem_cons.mp h with h | h
            · exact h
            · exact absurd h z
          subst this
          rw [e] at q
          cases q
          rw [L.ot _ z]; exact e⟩) hR
      refine ⟨v, st3, ?_, k, r⟩
      unfold lockE
      rw [e]
      exact e1
    | false =>
      have hn : (st.set n (.dct kvs true)).get n = some (.dct kvs true) := get_set_same e
      obtain ⟨v, st3, e1, k, r⟩ := lockE_at ds (st.set n (.dct kvs true)) (fun d h => by
          by_cases z : d = n
          · exact ⟨kvs, true, by rw [z]; exact hn⟩
          · obtain ⟨kv, lk, q⟩ := hd d (List.mem_cons_of_mem _ h)
            exact ⟨kv, lk, by rw [Sto.get_set, if_neg z]; exact q⟩) (fun st2 L => hf st2 ⟨by rw [L.nx, Sto.nx_set], fun m h => by
          rw [L.ot m (fun q => h (List.mem_cons_of_mem _ q)), Sto.get_set, if_neg (fun q => h (by rw [q]; exact List.mem_cons_self))], fun d h kv lk q => by
          by_cases z : d = n
          · subst z
            rw [e] at q
            cases q
            by_cases y : d ∈ ds
            · exact L.on d y _ true hn
            · rw [L.ot _ y]; exact hn
          · have h' : d ∈ ds := by
              rcases List.mem_cons.mp h with h | h
              · exact absurd h z
              · exact h
            exact L.on d h' kv lk (by rw [Sto.get_set, if_neg z]; exact q)⟩) hR
      refine ⟨v, st3.set n (.dct kvs false), ?_, ⟨by have := k.nx; rw [Sto.nx_set] at this ⊢; exact this, fun m hm => ?_⟩, hR _ _ _ _ r ⟨true, k.get hn⟩⟩
      · unfold lockE
        rw [e]
        show (lockE f ds (st.set n (.dct kvs true))).unl _ = _
        rw [e1]
        rfl
      · by_cases z : m = n
        · rw [z, get_set_same (k.get hn), e]
        · rw [Sto.get_set, if_neg z, k.eq m (by rw [Sto.nx_set]; exact hm), Sto.get_set, if_neg z]
end LW
set_option linter.all false
set_option maxRecDepth 100000
set_option maxHeartbeats 8000000
namespace LW
open MP PySem L2
/-- the ids that a walk over the spaces and their pages locks -/
def lkIds (E : SE) (al : List (Int × Nat)) : List Nat := E.sp :: al.map (·.2)
theorem refs_kv : ∀ al : List (Int × Nat), refs ((kv al).map (·.2)) = al.map (·.2)
  | [] => rfl
  | p :: r => by
    have := refs_kv r
    simp [refs, kv] at this ⊢
    exact this
/-- a walk over all pages of all processes finds none -/
theorem walk_none {step : Sl → Sto → Res Unit} {σ : Sl} {i : Nat} {σw : Sl} {st : Sto} {vs1 : List Nat} {g1 : MG} {ft1 : MT} {fe : ME} {D : Nat} : ∀ (al : List (Int × Nat)), (∀ p ∈ al, st.get p.2 = some (.dct [] true)) → i < σw.length →
    cpGo [] (gN i) (lc2Step mtYes (mwDict (fun l => l.map (·.2)) (mVar i)) g1 vs1 (lcStep ft1 fe D)) σw ((kv al).map (·.2)) st = .ok () st
  | [], _, _ => rfl
  | p :: r, h, hi => by
    have e := h p List.mem_cons_self
    have ih := walk_none (σ := σ) (step := step) (vs1 := vs1) (g1 := g1) (ft1 := ft1) (fe := fe) (D := D) r (fun q hq => h q (List.mem_cons_of_mem _ hq)) hi
    show cpGo [] (gN i) _ σw (.ref p.2 :: (kv r).map (·.2)) st = _
    unfold cpGo
    simp [chk, gN, lc2Step, mtYes, Res.bind, mwDict, mVar, hi, lockedK, e, cpGo, Res.calm]
    exact ih
end LW
set_option linter.all false
set_option maxRecDepth 100000
set_option maxHeartbeats 8000000
namespace LW
open MP PySem L2
theorem locked_pages_at {st : Sto} {E : SE} {s : Nat} {step last : Int} {al : List (Int × Nat)} (S : Sys st E s step last al) (hs : s ≠ E.sp) : ∃ st', p_System_locked_pages [.ref s] st = .ok (.int 0) st' ∧ Keep st st' := by
  have hd : ∀ d ∈ lkIds E al, ∃ kvs lk, st.get d = some (.dct kvs lk) := fun d h => by
    rcases List.mem_cons.mp h with h | h
    · exact ⟨_, _, by rw [h]; exact S.b⟩
    · obtain ⟨p, hp, rfl⟩ := List.mem_map.mp h
      exact ⟨_, _, (S.em p hp).1⟩
  have ns : s ∉ lkIds E al := fun h => by
    obtain ⟨kvs, lk, e⟩ := hd s h
    rw [S.a] at e; cases e
  obtain ⟨v, st3, e, k, r, hr⟩ : ∃ v st3, lockE (fun s2 => (mLc2 (mwDict (fun l => l.map (·.2)) (mFld 6 "spaces" (mVar 0))) (gN 1) mtYes (mwDict (fun l => l.map (·.2)) (mVar 1)) (gN 2) (mTru (mOp (oIn false) (mC (.str "lock")) mStuck)) (mC (.int 1)) [1, 2] [2]) [some (.ref s), none, none] s2) (lkIds E al) st = .ok v st3 ∧ Keep st st3 ∧ v = .ref st.nx ∧ st3.get st.nx = some (.lst []) := lockE_at (α := PV) (R := fun (v : PV) (s2 : Sto) => v = .ref st.nx ∧ s2.get st.nx = some (.lst [])) (f := fun s2 => (mLc2 (mwDict (fun l => l.map (·.2)) (mFld 6 "spaces" (mVar 0))) (gN 1) mtYes (mwDict (fun l => l.map (·.2)) (mVar 1)) (gN 2) (mTru (mOp (oIn false) (mC (.str "lock")) mStuck)) (mC (.int 1)) [1, 2] [2]) [some (.ref s), none, none] s2) (lkIds E al) st hd (fun st2 L => by
      have a2 : st2.get s = some (.ins 6 (sysF E step last)) := (L.ot s ns).trans S.a
      have b2 : st2.get E.sp = some (.dct (kv al) true) := L.on E.sp List.mem_cons_self _ _ S.b
      have em : ∀ p ∈ al, (st2.add (.lst [])).get p.2 = some (.dct [] true) := fun p hp => get_add_old (L.on p.2 (List.mem_cons_of_mem _ (List.mem_map.mpr ⟨p, hp, rfl⟩)) _ _ (S.em p hp).1)
      refine ⟨.ref st.nx, st2.add (.lst []), ?_, Keep.add, rfl, by rw [← L.nx]; exact get_add_new⟩
      have w := walk_none (st := st2.add (.lst [])) (σ := []) (step := fun _ st => .ok () st) (i := 1) (σw := [some (.ref s), none, none]) (vs1 := [2]) (g1 := gN 2) (ft1 := mTru (mOp (oIn false) (mC (.str "lock")) mStuck)) (fe := mC (.int 1)) (D := st2.nx) al em (by simp)
      simp only [mLc2, mwDict, mFld, mVar, Res.bind, insOf, a2, sys_spaces, lockedK, b2, kv_keys, wipeP, if_true, List.getElem?_cons_zero]
      simp [wipeP, L.nx] at w ⊢
      rw [w]) (fun v s2 n kvs ⟨h1, h2⟩ ⟨lk, h3⟩ => ⟨h1, by
        rw [Sto.get_set, if_neg (fun q => by rw [← q, h2] at h3; cases h3)]; exact h2⟩)
  refine ⟨st3, ?_, k⟩
  have ei : idE2 (mFld 6 "spaces" (mVar 0)) [some (.ref s), none, none] st = lkIds E al := by
    unfold idE2
    rw [fld_get (n := s) (v := .ref E.sp) rfl S.a (sys_spaces _ _ _)]
    simp only [S.b, refs_kv]
    rfl
  unfold p_System_locked_pages runB b_System_locked_pages
  show outV (sRet _ [some (.ref s), none, none] st) = _
  unfold sRet mB mCons mNil mLock
  rw [ei]
  simp only [Res.bind]
  rw [e]
  subst r
  simp [Res.toS, gL1, lstOf, hr, sumL, intsOf, outV]
end LW
set_option linter.all false
set_option maxRecDepth 100000
set_option maxHeartbeats 8000000
namespace LW
open MP PySem L2
theorem st_row (E : SE) : (stF E).lookup ("row" : Str) = some (.ref E.rw_) := by rfl
theorem st_locked (E : SE) : (stF E).lookup ("locked" : Str) = some (.int 0) := by rfl
theorem st_putLocked (E : SE) : putP "locked" (.int 0) (stF E) = stF E := by simp (decide := true) [stF, putP]
theorem st_len (E : SE) : (stF E).length < 900 := by simp [stF]
end LW
set_option linter.all false
set_option maxRecDepth 100000
set_option maxHeartbeats 8000000
namespace LW
open MP PySem L2
theorem Keep.set_same {st s2 : Sto} {n : Nat} {o : PO} (k : Keep st s2) (h : st.get n = some o) : Keep st (s2.set n o) :=
  ⟨by rw [Sto.nx_set]; exact k.nx, fun m hm => by
    by_cases z : m = n
    · rw [z, get_set_same (k.get h), h]
    · rw [Sto.get_set, if_neg z]; exact k.eq m hm⟩
theorem relock_at {st : Sto} {E : SE} {s : Nat} {step last : Int} {al : List (Int × Nat)} (S : Sys st E s step last al) (x : PV) : ∃ st', p_Stack_relock [.ref E.sk, x] st = .ok .non st' ∧ Keep st st' := by
  have hr := S.e
  have hd := S.d
  have n1 := Sto.lt_nx hr
  have n2 := Sto.lt_nx hd
  have a1 : ∀ k, (E.rw_ = st.nx + k) = False := fun k => by simp; omega
  have a2 : (E.rw_ = st.nx) = False := by simp; omega
  have a3 : ∀ k, (E.sk = st.nx + k) = False := fun k => by simp; omega
  have a4 : (E.sk = st.nx) = False := by simp; omega
  have g1 : ∀ k, st.get (st.nx + k) = none := fun k => by unfold Sto.get Sto.nx; simp
  have g2 : st.get st.nx = none := by unfold Sto.get Sto.nx; simp
  have c0 : ∀ lo hi, cutP ([] : List PV) lo hi = [] := fun lo hi => by simp [cutP]
  unfold p_Stack_relock runB b_Stack_relock
  simp [slots, sSeq, sLocks, sLockL, idE, sSet, mLc, mwE, mSl, moNone, moSome, mFld, mVar, insOf, hd, hr, st_row, st_locked, Res.bind, Res.toS, ResS.seq, slP, c0, mkNew, walkV, Sto.get_add, Sto.nx_add, Nat.add_assoc, a1, a2, a3, a4, cpGo, chk, wipeP, tupP, sLock, g1, g2, oAdd, mOp, mB, gLen, lenP, mCons, mNil, oAddL, ownL, sz, sFor, mwR1, big62, rngP, forGo, ResS.unl, Res.unl, sFldM, st_len, st_putLocked, outV]
  exact Keep.set_same (((((((Keep.add.trans Keep.add).trans Keep.add).trans Keep.add).trans Keep.add).trans Keep.add).trans Keep.add).trans Keep.add) hd
end LW
set_option linter.all false
set_option maxRecDepth 100000
set_option maxHeartbeats 8000000
namespace LW
open MP PySem L2
theorem sLockL_at {R : Sl → Sto → Prop} {f : MS} {σ : Sl} : ∀ (ds : List Nat) (st : Sto), (∀ d ∈ ds, ∃ kvs lk, st.get d = some (.dct kvs lk)) → (∀ st2, Lkd ds st st2 → ∃ v st3, f σ st2 = .nx v st3 ∧ Keep st2 st3 ∧ R v st3) →
    (∀ v s n kvs, R v s → (∃ lk, s.get n = some (.dct kvs lk)) → R v (s.set n (.dct kvs false))) → ∃ v st3, sLockL f ds σ st = .nx v st3 ∧ Keep st st3 ∧ R v st3
  | [], st, _, hf, _ => by
    obtain ⟨v, st3, e, k, r⟩ := hf st ⟨rfl, fun _ _ => rfl, fun _ h => (nomatch h)⟩
    exact ⟨v, st3, e, k, r⟩
  | n :: ds, st, hd, hf, hR => by
    obtain ⟨kvs, lk, e⟩ := hd n List.mem_cons_self
    cases lk with
    | true =>
      obtain ⟨v, st3, e1, k, r⟩ := sLockL_at ds st (fun d h => hd d (List.mem_cons_of_mem _ h)) (fun st2 L => hf st2 ⟨L.nx, fun m h => L.ot m (fun q => h (List.mem_cons_of_mem _ q)), fun d h kv lk q => by
        by_cases z : d ∈ ds
        · exact L.on d z kv lk q
        · have : d = n := by
            rcases List.mem_cons.mp h with h | h
            · exact h
            · exact absurd h z
          subst this
          rw [e] at q
          cases q
          rw [L.ot _ z]; exact e⟩) hR
      refine ⟨v, st3, ?_, k, r⟩
      show (match st.get n with | some (.dct kvs false) => (sLockL f ds σ (st.set n (.dct kvs true))).unl fun s => s.set n (.dct kvs false) | _ => sLockL f ds σ st) = _
      rw [e]
      exact e1
    | false =>
      have hn : (st.set n (.dct kvs true)).get n = some (.dct kvs true) := get_set_same e
      obtain ⟨v, st3, e1, k, r⟩ := sLockL_at ds (st.set n (.dct kvs true)) (fun d h => by
          by_cases z : d = n
          · exact ⟨kvs, true, by rw [z]; exact hn⟩
          · obtain ⟨kv, lk, q⟩ := hd d (List.mem_cons_of_mem _ h)
            exact ⟨kv, lk, by rw [Sto.get_set, if_neg z]; exact q⟩) (fun st2 L => hf st2 ⟨by rw [L.nx, Sto.nx_set], fun m h => by
          rw [L.ot m (fun q => h (List.mem_cons_of_mem _ q)), Sto.get_set, if_neg (fun q => h (by rw [q]; exact List.mem_cons_self))], fun d h kv lk q => by
          by_cases z : d = n
          · subst z
            rw [e] at q
            cases q
            by_cases y : d ∈ ds
            · exact L.on d y _ true hn
            · rw [L.ot _ y]; exact hn
          · have h' : d ∈ ds := by
              rcases List.mem_cons.mp h with h | h
              · exact absurd h z
              · exact h
            exact L.on d h' kv lk (by rw [Sto.get_set, if_neg z]; exact q)⟩) hR
      refine ⟨v, st3.set n (.dct kvs false), ?_, ⟨by have := k.nx; rw [Sto.nx_set] at this ⊢; exact this, fun m hm => ?_⟩, hR _ _ _ _ r ⟨true, k.get hn⟩⟩
      · show (match st.get n with | some (.dct kvs false) => (sLockL f ds σ (st.set n (.dct kvs true))).unl fun s => s.set n (.dct kvs false) | _ => sLockL f ds σ st) = _
        rw [e]
        show (sLockL f ds σ (st.set n (.dct kvs true))).unl _ = _
        rw [e1]
        rfl
      · by_cases z : m = n
        · rw [z, get_set_same (k.get hn), e]
        · rw [Sto.get_set, if_neg z, k.eq m (by rw [Sto.nx_set]; exact hm), Sto.get_set, if_neg z]
end LW
set_option linter.all false
set_option maxRecDepth 100000
set_option maxHeartbeats 8000000
namespace LW
open MP PySem L2
theorem locked_items_at {st : Sto} {E : SE} {s : Nat} {step last : Int} {al : List (Int × Nat)} (S : Sys st E s step last al) (hs : s ≠ E.sp) : ∃ x st', p_System_locked_items [.ref s] st = .ok x st' ∧ Keep st st' := by
  have hd : ∀ d ∈ lkIds E al, ∃ kvs lk, st.get d = some (.dct kvs lk) := fun d h => by
    rcases List.mem_cons.mp h with h | h
    · exact ⟨_, _, by rw [h]; exact S.b⟩
    · obtain ⟨p, hp, rfl⟩ := List.mem_map.mp h
      exact ⟨_, _, (S.em p hp).1⟩
  have ns : s ∉ lkIds E al := fun h => by
    obtain ⟨kvs, lk, e⟩ := hd s h
    rw [S.a] at e; cases e
  obtain ⟨v, st3, e, k, r, hr⟩ : ∃ v st3, sLockL (sSet 1 (mLc2 (mwDict (fun l => l.map (·.2)) (mFld 6 "spaces" (mVar 0))) (gN 2) mtYes (mwDict (fun l => l.map (·.2)) (mVar 2)) (gN 3) (mTru (mOp (oIn false) (mC (.str "lock")) mStuck)) (mVar 3) [2, 3] [3])) (lkIds E al) [some (.ref s), none, none, none] st = .nx v st3 ∧ Keep st st3 ∧ v = [some (.ref s), some (.ref st.nx), none, none] ∧ st3.get st.nx = some (.lst []) :=
    sLockL_at (R := fun (v : Sl) (s2 : Sto) => v = [some (.ref s), some (.ref st.nx), none, none] ∧ s2.get st.nx = some (.lst [])) (lkIds E al) st hd (fun st2 L => by
      have a2 : st2.get s = some (.ins 6 (sysF E step last)) := (L.ot s ns).trans S.a
      have b2 : st2.get E.sp = some (.dct (kv al) true) := L.on E.sp List.mem_cons_self _ _ S.b
      have em : ∀ p ∈ al, (st2.add (.lst [])).get p.2 = some (.dct [] true) := fun p hp => get_add_old (L.on p.2 (List.mem_cons_of_mem _ (List.mem_map.mpr ⟨p, hp, rfl⟩)) _ _ (S.em p hp).1)
      refine ⟨[some (.ref s), some (.ref st.nx), none, none], st2.add (.lst []), ?_, Keep.add, rfl, by rw [← L.nx]; exact get_add_new⟩
      have w := walk_none (st := st2.add (.lst [])) (σ := []) (step := fun _ st => .ok () st) (i := 2) (σw := [some (.ref s), none, none, none]) (vs1 := [3]) (g1 := gN 3) (ft1 := mTru (mOp (oIn false) (mC (.str "lock")) mStuck)) (fe := mVar 3) (D := st2.nx) al em (by simp)
      simp only [sSet, mLc2, mwDict, mFld, mVar, Res.bind, insOf, a2, sys_spaces, lockedK, b2, kv_keys, wipeP, if_true, List.getElem?_cons_zero]
      simp [wipeP, L.nx] at w ⊢
      rw [w]
      rfl) (fun v s2 n kvs ⟨h1, h2⟩ ⟨lk, h3⟩ => ⟨h1, by
        rw [Sto.get_set, if_neg (fun q => by rw [← q, h2] at h3; cases h3)]; exact h2⟩)
  subst r
  have ei : idE2 (mFld 6 "spaces" (mVar 0)) [some (.ref s), none, none, none] st = lkIds E al := by
    unfold idE2
    rw [fld_get (n := s) (v := .ref E.sp) rfl S.a (sys_spaces _ _ _)]
    simp only [S.b, refs_kv]
    rfl
  refine ⟨.ref st3.nx, st3.add (.dct [] false), ?_, k.trans Keep.add⟩
  unfold p_System_locked_items runB b_System_locked_items
  show outV (sSeq _ _ [some (.ref s), none, none, none] st) = _
  rw [sSeq_nx (σ1 := [some (.ref s), some (.ref st.nx), none, none]) (st1 := st3) (by unfold sLocks; rw [ei]; exact e)]
  have nn : (st.nx = st3.nx) = False := by have := Sto.lt_nx hr; simp; omega
  simp [sRet, mLock, idE, mVar, lockE, hr, mDc, mwE, walkV, Res.bind, Sto.get_add, nn, cpGo, chk, wipeP, Res.toS, outV]
end LW
set_option linter.all false
set_option maxRecDepth 100000
set_option maxHeartbeats 8000000
namespace LW
open MP PySem L2
theorem settle_at {st : Sto} {E : SE} {s : Nat} {step last : Int} {al : List (Int × Nat)} (S : Sys st E s step last al) (hs : s ≠ E.sp) : ∃ st', p_System_settle [.ref s] st = .ok .non st' ∧ Keep st st' := by
  obtain ⟨s1, e1, k1⟩ := locked_pages_at S hs
  have S1 := S.keep k1
  have k2 : Keep s1 (s1.set s (.ins 6 (sysF E step last))) := Keep.set_same Keep.refl S1.a
  have S2 := S1.keep k2
  obtain ⟨x, s3, e3, k3⟩ := locked_items_at S2 hs
  have S3 := S2.keep k3
  obtain ⟨s4, e4, k4⟩ := relock_at S3 x
  refine ⟨s4, ?_, ((k1.trans k2).trans k3).trans k4⟩
  unfold p_System_settle runB b_System_settle
  simp [slots, sSeq, sFldM, mB, mCons, mNil, mFld, mVar, Res.bind, insOf, S.a, sys_most, mMeth, gp_System_locked_pages, gp_System_locked_items, gp_Stack_relock, e1, gOr, gMax2, Res.toS, S1.a, sys_len, sys_putMost, ResS.seq, sExpr, S2.a, sys_stack, S2.d, e3, e4, outV]
end LW
set_option linter.all false
set_option maxRecDepth 100000
set_option maxHeartbeats 8000000
namespace LW
open MP PySem L2
theorem tidy_at {st : Sto} {E : SE} {s : Nat} {step last : Int} {al : List (Int × Nat)} (S : Sys st E s step last al) (hs : s ≠ E.sp) (hl : al.length < 64) : ∃ st', p_tidy [.ref s] st = .ok .non st' ∧ Keep st st' := by
  have k0 : Keep st (st.add (.dct [] false)) := Keep.add
  have S0 := S.keep k0
  obtain ⟨f, s1, e1, h1, k1⟩ := places_at S0 hl
  have S1 := S0.keep k1
  have k2 : Keep s1 (s1.add (.lst [])) := Keep.add
  have S2 := S1.keep k2
  have h2 : (s1.add (.lst [])).get s1.nx = some (.lst []) := get_add_new
  obtain ⟨s3, e3, k3⟩ := settle_at S2 hs
  refine ⟨s3, ?_, ((k0.trans k1).trans k2).trans k3⟩
  unfold p_tidy runB b_tidy
  simp [slots, sSeq, sSet, mDict0, mkNew, Res.toS, ResS.seq, sFor, mwE, mCall, gp_places, mCons, mNil, mVar, Res.bind, e1, walkV, h1, forGo, chk, mB, mFld, insOf, S1.a, sys_objects, gOr, gNewL, lisL, lstOf, S1.c, lisD, keysD, h2, sExpr, mMeth, gp_System_settle, S2.a, e3, outV]
end LW
set_option linter.all false
set_option maxRecDepth 100000
set_option maxHeartbeats 8000000
namespace LW
open MP PySem L2
theorem done_at {st : Sto} {E : SE} {s : Nat} {step last : Int} {al : List (Int × Nat)} (S : Sys st E s step last al) (hs : s ≠ E.sp) (hl : al.length < 64) : ∃ st', p_System_done [.ref s] st = .ok .non st' ∧ Sys st' E s (step + 1) last al ∧ But s st st' := by
  obtain ⟨s1, e1, k1⟩ := tidy_at S hs hl
  have S1 := S.keep k1
  have old : ∀ m o, m ≠ s → s1.get m = some o → (s1.set s (.ins 6 (sysF E (step + 1) last))).get m = some o := fun m o h q => by rw [Sto.get_set, if_neg h]; exact q
  have nes : ∀ m o, s1.get m = some o → (∀ fs, o ≠ .ins 6 fs) → m ≠ s := fun m o q h z => by rw [z, S1.a] at q; cases q; exact h _ rfl
  refine ⟨s1.set s (.ins 6 (sysF E (step + 1) last)), ?_, ⟨get_set_same S1.a, old _ _ (Ne.symm hs) S1.b, old _ _ (nes _ _ S1.c (fun _ z => nomatch z)) S1.c, old _ _ (nes _ _ S1.d (fun _ z => by cases z)) S1.d, old _ _ (nes _ _ S1.e (fun _ z => nomatch z)) S1.e, S1.ne, S1.pw, S1.le, fun p hp => let ⟨h1, h2, h3⟩ := S1.em p hp; ⟨old _ _ (nes _ _ h1 (fun _ z => nomatch z)) h1, h2, h3⟩⟩, ⟨by rw [Sto.nx_set]; exact k1.nx, fun m h1 h2 => by rw [Sto.get_set, if_neg h2]; exact k1.eq m h1⟩⟩
  unfold p_System_done runB b_System_done
  simp [slots, sSeq, sExpr, mCall, gp_tidy, mCons, mNil, mVar, Res.bind, e1, Res.toS, ResS.seq, sFldAdd, insOf, S1.a, sys_step, mC, sys_len, sys_putStep, outV]
end LW
set_option linter.all false
set_option maxRecDepth 100000
set_option maxHeartbeats 8000000
namespace LW
open MP PySem L2
theorem spawn_at {st : Sto} {E : SE} {s : Nat} {step last : Int} {al : List (Int × Nat)} (S : Sys st E s step last al) (hs : s ≠ E.sp) (hl : al.length < 63) (h0 : 0 ≤ last) :
    ∃ st', p_spawn [.ref s] st = .ok (.int (last + 1)) st' ∧ Sys st' E s (step + 1) (last + 1) (al ++ [(last + 1, st.nx)]) ∧ st.nx ≤ st'.nx ∧ ∀ m, m < st.nx → m ≠ s → m ≠ E.sp → st'.get m = st.get m := by
  obtain ⟨s1, e1, S1, n1, k1⟩ := new_process S hs (by omega) h0
  obtain ⟨s2, e2, S2, b2⟩ := done_at S1 hs (by rw [List.length_append]; show al.length + 1 < 64; omega)
  refine ⟨s2, ?_, S2, Nat.le_trans n1 b2.nx, fun m h1 h2 h3 => (b2.eq m (by omega) h2).trans (k1 m h1 h2 h3)⟩
  unfold p_spawn runB b_spawn
  simp [slots, sSeq, sSet, mCall, gp_new_process, mCons, mNil, mVar, Res.bind, e1, Res.toS, ResS.seq, sExpr, mMeth, insOf, S1.a, gp_System_done, e2, sRet, outV]
end LW
set_option linter.all false
set_option maxRecDepth 100000
set_option maxHeartbeats 8000000
namespace LW
open MP PySem L2
/-- no process of the system -/
def NoP (al : List (Int × Nat)) (st : Sto) (x : PV) : Prop := p_is_integer [x] st = .ok (.bl false) st ∨ ∃ i, x = .int i ∧ ∀ p ∈ al, p.1 ≠ i
theorem isint_int (i : Int) (st : Sto) : p_is_integer [.int i] st = .ok (.bl true) st := by rfl
theorem kv_none {al : List (Int × Nat)} {i : Int} (h : ∀ p ∈ al, p.1 ≠ i) : dgetP (kv al) (.int i) = none := by
  unfold dgetP
  rw [Option.map_eq_none_iff, List.find?_eq_none]
  intro x hx
  obtain ⟨p, hp, rfl⟩ := List.mem_map.mp hx
  have := h p hp
  simp [this]
theorem in_none {st : Sto} {E : SE} {s : Nat} {step last : Int} {al : List (Int × Nat)} (S : Sys st E s step last al) {i : Int} (h : ∀ p ∈ al, p.1 ≠ i) : oIn true (.int i) (.ref E.sp) st = .ok (.bl true) st := by
  simp [oIn, inP, S.b, kv_fit, kv_none h]
theorem in_some {st : Sto} {E : SE} {s : Nat} {step last : Int} {al : List (Int × Nat)} (S : Sys st E s step last al) {i : Int} {d : Nat} (h : (i, d) ∈ al) : oIn true (.int i) (.ref E.sp) st = .ok (.bl false) st := by
  simp [oIn, inP, S.b, kv_fit, kv_get S.pw h]
theorem check_ok {st : Sto} {E : SE} {s : Nat} {step last : Int} {al : List (Int × Nat)} (S : Sys st E s step last al) {i : Int} {d : Nat} (h : (i, d) ∈ al) : p_check_process [.ref s, .int i] st = .ok .non st := by
  unfold p_check_process runB b_check_process
  simp [slots, sIf, mOrT, mNotT, mTru, mCall, gp_is_integer, mCons, mNil, mVar, Res.bind, isint_int, truP, mOp, mFld, insOf, S.a, sys_spaces, in_some S h, Res.toS, sSkip, outV]
theorem check_bad {st : Sto} {E : SE} {s : Nat} {step last : Int} {al : List (Int × Nat)} (S : Sys st E s step last al) {x : PV} (h : NoP al st x) : p_check_process [.ref s, x] st = .err ⟨2, [("process", x)]⟩ st := by
  unfold p_check_process runB b_check_process
  rcases h with h | ⟨i, rfl, h⟩
  · simp [slots, sIf, mOrT, mNotT, mTru, mCall, gp_is_integer, mCons, mNil, mVar, Res.bind, h, truP, Res.toS, sRaise1, outV]
  · simp [slots, sIf, mOrT, mNotT, mTru, mCall, gp_is_integer, mCons, mNil, mVar, Res.bind, isint_int, truP, mOp, mFld, insOf, S.a, sys_spaces, in_none S h, Res.toS, sRaise1, outV]
theorem fork_bad {st : Sto} {E : SE} {s : Nat} {step last : Int} {al : List (Int × Nat)} (S : Sys st E s step last al) {x : PV} (h : NoP al st x) : p_fork [.ref s, x] st = .err ⟨2, [("process", x)]⟩ st := by
  unfold p_fork runB b_fork
  simp [slots, sSeq, sExpr, mCall, gp_check_process, mCons, mNil, mVar, Res.bind, check_bad S h, Res.toS, ResS.seq, outV]
theorem leave_bad {st : Sto} {E : SE} {s : Nat} {step last : Int} {al : List (Int × Nat)} (S : Sys st E s step last al) {x : PV} (h : NoP al st x) : p_leave [.ref s, x] st = .err ⟨2, [("process", x)]⟩ st := by
  unfold p_leave runB b_leave
  simp [slots, sSeq, sExpr, mCall, gp_check_process, mCons, mNil, mVar, Res.bind, check_bad S h, Res.toS, ResS.seq, outV]
theorem fresh_bad {st : Sto} {E : SE} {s : Nat} {step last : Int} {al : List (Int × Nat)} (S : Sys st E s step last al) {x : PV} (h : NoP al st x) : p_fresh [.ref s, x] st = .err ⟨2, [("process", x)]⟩ st := by
  unfold p_fresh runB b_fresh
  simp [slots, sSeq, sExpr, mCall, gp_check_process, mCons, mNil, mVar, Res.bind, check_bad S h, Res.toS, ResS.seq, outV]
theorem said_ok {f : ME} {σ : Sl} {st st' : Sto} {v : PV} (h : f σ st = .ok v st') : mLam (subOf subT) hs__law_said N__law_said.length f σ st = .ok v st' := by unfold mLam; rw [h]
theorem said_proc {f : ME} {σ : Sl} {st st' : Sto} {x : PV} (h : f σ st = .err ⟨2, [("process", x)]⟩ st') : mLam (subOf subT) hs__law_said N__law_said.length f σ st = .ok (.tup [.str "process", x]) st' := by
  unfold mLam
  rw [h]
  rfl
theorem said_sys {f : ME} {σ : Sl} {st st' : Sto} {x : PV} (h : f σ st = .err ⟨1, [("part", x)]⟩ st') : mLam (subOf subT) hs__law_said N__law_said.length f σ st = .ok (.tup [.str "system", x]) st' := by
  unfold mLam
  rw [h]
  rfl
end LW
set_option linter.all false
set_option maxRecDepth 100000
set_option maxHeartbeats 8000000
namespace LW
open MP PySem L2
theorem lock_empty {fe : ME} {g : MG} {b : MS} {σ : Sl} {st : Sto} {d : Nat} (h : fe σ st = .ok (.ref d) st) (h1 : st.get d = some (.dct [] false)) (h2 : fe σ (st.set d (.dct [] true)) = .ok (.ref d) (st.set d (.dct [] true))) :
    sLock fe (sFor (mwDict (fun l => l.map fun p => .tup [p.1, p.2]) fe) g b) σ st = .nx σ ((st.set d (.dct [] true)).set d (.dct [] false)) := by
  have e : lockedK (.ref d) (st.set d (.dct [] true)) = some [] := by
    unfold lockedK
    simp only [get_set_same h1]
    rfl
  unfold sLock
  rw [h]
  simp only [h1]
  unfold sFor mwDict
  rw [h2]
  simp only [Res.bind, e, Res.toS, List.map_nil]
  rfl
theorem keep_lock {st : Sto} {d : Nat} {kvs : List (PV × PV)} (h1 : st.get d = some (.dct kvs false)) : Keep st ((st.set d (.dct kvs true)).set d (.dct kvs false)) := by
  refine ⟨by rw [Sto.nx_set, Sto.nx_set]; exact Nat.le_refl _, fun m _ => ?_⟩
  by_cases q : m = d
  · rw [q, get_set_same (get_set_same h1), h1]
  · rw [Sto.get_set, if_neg q, Sto.get_set, if_neg q]
theorem space_ix {st : Sto} {E : SE} {s : Nat} {step last : Int} {al : List (Int × Nat)} {σ : Sl} {i : Int} {d : Nat} (ha : st.get s = some (.ins 6 (sysF E step last))) (hb : st.get E.sp = some (.dct (kv al) false)) (pw : (al.map (·.1)).Pairwise (· < ·)) (h : (i, d) ∈ al) (h0 : σ[0]? = some (some (.ref s))) (h1 : σ[1]? = some (some (.int i))) :
    mIx (mFld 6 "spaces" (mVar 0)) (mVar 1) σ st = .ok (.ref d) st := by
  simp [mIx, mFld, mVar, h0, h1, Res.bind, insOf, ha, sys_spaces, ixP, hb, kv_fit, kv_get pw h]
theorem child_at {st : Sto} {E : SE} {s : Nat} {step last : Int} {al : List (Int × Nat)} (S : Sys st E s step last al) {i : Int} {d : Nat} (h : (i, d) ∈ al) :
    ∃ st', p_child_pages [.ref s, .int i] st = .ok (.ref st.nx) st' ∧ Keep st st' ∧ st'.get st.nx = some (.dct [] false) ∧ st'.nx = st.nx + 1 := by
  have k0 : Keep st (st.add (.dct [] false)) := Keep.add
  have S0 := S.keep k0
  obtain ⟨em, h2, h3⟩ := S0.em _ h
  have nd : d ≠ s := fun q => by have := em; simp only [] at this; rw [q, S0.a] at this; cases this
  have hd : d < st.nx := Sto.lt_nx (S.em _ h).1
  have gn : (st.add (.dct [] false)).get st.nx = some (.dct [] false) := get_add_new
  have l := lock_empty (σ := [some (.ref s), some (.int i), some (.ref st.nx), none, none, none]) (st := st.add (.dct [] false)) (d := d) (fe := mIx (mFld 6 "spaces" (mVar 0)) (mVar 1)) (g := gT 2 (gsCons (gN 3) (gsCons (gN 4) gsNil))) (b := (sIf (mTru (mOp (oIn true) (mC (.str "stay")) mStuck))
    (sSeq (sSet 5 (mAnd (mNot mStuck) (mOp (oIn false) (mC (.str "wipe")) mStuck)))
    sStuck)
    sSkip)) (space_ix S0.a S0.b S0.pw h rfl rfl) em (space_ix (by rw [Sto.get_set, if_neg (Ne.symm nd)]; exact S0.a) (by rw [Sto.get_set, if_neg (Ne.symm h2)]; exact S0.b) S0.pw h rfl rfl)
  refine ⟨((st.add (.dct [] false)).set d (.dct [] true)).set d (.dct [] false), ?_, k0.trans (keep_lock em), (keep_lock em).get gn, by rw [Sto.nx_set, Sto.nx_set, Sto.nx_add]⟩
  show outV (b_child_pages [some (.ref s), some (.int i), none, none, none, none] st) = _
  unfold b_child_pages
  rw [sSeq_nx (σ1 := [some (.ref s), some (.int i), some (.ref st.nx), none, none, none]) (st1 := st.add (.dct [] false)) (by rfl), sSeq_nx l]
  rfl
theorem charge_at {st : Sto} {E : SE} {s : Nat} {step last : Int} {al : List (Int × Nat)} (S : Sys st E s step last al) (x : PV) : p_check_charge [.ref s, x, .non] st = .ok .non st := by
  unfold p_check_charge runB b_check_charge
  simp [slots, sSeq, sIf, mNotT, mTru, mFld, mVar, Res.bind, insOf, S.a, sys_strict, truP, Res.toS, sRetN, ResS.seq, outV]
end LW
set_option linter.all false
set_option maxRecDepth 100000
set_option maxHeartbeats 8000000
namespace LW
open MP PySem L2
theorem dstar_at {st : Sto} {E : SE} {s : Nat} {step last : Int} {al : List (Int × Nat)} (S : Sys st E s step last al) (hl : al.length < 64) {σ : Sl} {q : PV} (h0 : σ[0]? = some (some (.ref s))) (h2 : σ[2]? = some (some q)) :
    ∃ st', mDstar1 (mFld 6 "spaces" (mVar 0)) (mOp oAdd (mFld 6 "last_process" (mVar 0)) (mC (.int 1))) (mVar 2) σ st = .ok (.ref st.nx) st' ∧ Keep st st' := by
  have k0 : Keep st (st.add (.dct [] false)) := Keep.add
  have S0 := S.keep k0
  have lsp := Sto.lt_nx S.b
  have ls := Sto.lt_nx S.a
  have e3 : keysD (.ref E.sp) (st.add (.dct [] false)) = some (kv al) := by
    unfold keysD
    simp only [S0.b, kv_keys, if_true]
  have g0 : (st.add (.dct [] false)).get st.nx = some (.dct [] false) := get_add_new
  have n0 : (st.add (.dct [] false)).nx = st.nx + 1 := Sto.nx_add _ _
  have nx1 : ((st.add (.dct [] false)).set st.nx (.dct (kv al) false)).nx = st.nx + 1 := by rw [Sto.nx_set, n0]
  have g1 : (((st.add (.dct [] false)).set st.nx (.dct (kv al) false)).add (.dct [] false)).get st.nx = some (.dct (kv al) false) := get_add_old (get_set_same g0)
  have g2 : (((st.add (.dct [] false)).set st.nx (.dct (kv al) false)).add (.dct [] false)).get (st.nx + 1) = some (.dct [] false) := by
    have := get_add_new (st := (st.add (.dct [] false)).set st.nx (.dct (kv al) false)) (o' := .dct [] false)
    rw [nx1] at this; exact this
  have a1 : (((st.add (.dct [] false)).set st.nx (.dct (kv al) false)).add (.dct [] false)).get s = some (.ins 6 (sysF E step last)) := get_add_old (by rw [Sto.get_set, if_neg (by omega)]; exact S0.a)
  have ne : E.sp ≠ st.nx := by omega
  have len : (kv al).length + 1 ≤ 16777216 := by unfold kv; rw [List.length_map]; omega
  refine ⟨((((st.add (.dct [] false)).set st.nx (.dct (kv al) false)).add (.dct [] false)).set (st.nx + 1) (.dct [(.int (last + 1), q)] false)).set st.nx (.dct (dputP (kv al) (.int (last + 1)) q) false), ?_, ⟨by simp [Sto.nx_set, Sto.nx_add]; omega, fun m hm => ?_⟩⟩
  · unfold mDstar1
    rw [fld_get (n := s) (v := .ref E.sp) h0 S0.a (sys_spaces _ _ _)]
    simp [Res.bind, e3, ne, g0, mOp, mFld, mVar, h0, h2, insOf, a1, sys_last, mC, oAdd, kindK, n0, g1, g2, sz, len, kv_fit]
  · rw [Sto.get_set, if_neg (by omega), Sto.get_set, if_neg (by omega), Sto.get_add, if_neg (by omega), Sto.get_set, if_neg (by omega), Sto.get_add, if_neg (by omega)]
theorem kv_app (al : List (Int × Nat)) (j : Int) (d : Nat) : kv (al ++ [(j, d)]) = kv al ++ [(.int j, .ref d)] := by simp [kv]
theorem kv_last {al : List (Int × Nat)} {j : Int} {d : Nat} (h : ∀ p ∈ al, p.1 ≠ j) (q : Nat) : dputP (kv (al ++ [(j, d)])) (.int j) (.ref q) = kv (al ++ [(j, q)]) := by
  rw [kv_app, kv_app]
  unfold dputP
  rw [if_pos (by simp), List.map_append]
  congr 1
  · conv => rhs; rw [← List.map_id (kv al)]
    refine List.map_congr_left fun x hx => ?_
    obtain ⟨p, hp, rfl⟩ := List.mem_map.mp hx
    have := h p hp
    simp [this]
  · simp
theorem Sys.relast {st : Sto} {E : SE} {s : Nat} {step last : Int} {al : List (Int × Nat)} {j : Int} {d q : Nat} (S : Sys st E s step last (al ++ [(j, d)])) (hs : s ≠ E.sp) (hq : st.get q = some (.dct [] false)) (h2 : q ≠ E.sp) (h3 : q ≠ E.ob) :
    Sys (st.set E.sp (.dct (kv (al ++ [(j, q)])) false)) E s step last (al ++ [(j, q)]) := by
  have old : ∀ m o, m ≠ E.sp → st.get m = some o → (st.set E.sp (.dct (kv (al ++ [(j, q)])) false)).get m = some o := fun m o h k => by rw [Sto.get_set, if_neg h]; exact k
  refine ⟨old _ _ hs S.a, get_set_same S.b, old _ _ (Ne.symm S.ne) S.c, old _ _ (fun z => ?_) S.d, old _ _ (fun z => ?_) S.e, S.ne, ?_, ?_, ?_⟩
  · have := S.d; rw [z, S.b] at this; cases this
  · have := S.e; rw [z, S.b] at this; cases this
  · have := S.pw
    rw [List.map_append] at this ⊢
    exact this
  · intro p hp
    rcases List.mem_append.mp hp with hp | hp
    · exact S.le p (List.mem_append_left _ hp)
    · simp at hp
      subst hp
      exact S.le (j, d) (List.mem_append_right _ (List.mem_singleton.mpr rfl))
  · intro p hp
    rcases List.mem_append.mp hp with hp | hp
    · obtain ⟨x1, x2, x3⟩ := S.em p (List.mem_append_left _ hp)
      exact ⟨old _ _ x2 x1, x2, x3⟩
    · simp at hp
      subst hp
      exact ⟨old _ _ h2 hq, h2, h3⟩
end LW
set_option linter.all false
set_option maxRecDepth 100000
set_option maxHeartbeats 8000000
namespace LW
open MP PySem L2
theorem fork_at {st : Sto} {E : SE} {s : Nat} {step last : Int} {al : List (Int × Nat)} (S : Sys st E s step last al) (hs : s ≠ E.sp) (hl : al.length < 63) (h0 : 0 ≤ last) {i : Int} {d : Nat} (h : (i, d) ∈ al) :
    ∃ d' st', p_fork [.ref s, .int i] st = .ok (.int (last + 1)) st' ∧ Sys st' E s (step + 1) (last + 1) (al ++ [(last + 1, d')]) ∧ st.nx ≤ st'.nx ∧ ∀ m, m < st.nx → m ≠ s → m ≠ E.sp → st'.get m = st.get m := by
  obtain ⟨s1, e1, k1, q1, n1⟩ := child_at S h
  have S1 := S.keep k1
  obtain ⟨s2, e2, k2⟩ := dstar_at S1 (by omega) (σ := [some (.ref s), some (.int i), some (.ref st.nx), none, none, none]) (q := .ref st.nx) rfl rfl
  have S2 := S1.keep k2
  have q2 := k2.get q1
  obtain ⟨s3, e3, S3, n3, o3⟩ := new_process S2 hs (by omega) h0
  have lq := Sto.lt_nx q2
  have ls := Sto.lt_nx S.a
  have lsp := Sto.lt_nx S.b
  have lob := Sto.lt_nx S.c
  have n2 := k2.nx
  have q3 : s3.get st.nx = some (.dct [] false) := (o3 _ lq (by omega) (by omega)).trans q2
  have S4 := S3.relast hs q3 (by omega) (by omega)
  have q4 : (s3.set E.sp (.dct (kv (al ++ [(last + 1, st.nx)])) false)).get st.nx = some (.dct [] false) := by rw [Sto.get_set, if_neg (by omega)]; exact q3
  have k5 := keep_lock q4
  have S5 := S4.keep k5
  obtain ⟨s6, e6, S6, b6⟩ := done_at S5 hs (by rw [List.length_append]; show al.length + 1 < 64; omega)
  refine ⟨st.nx, s6, ?_, S6, ?_, fun m h1 h2 h3 => ?_⟩
  · have x1 : p_fork [.ref s, .int i] st = outV (b_fork [some (.ref s), some (.int i), none, none, none, none] st) := rfl
    rw [x1]
    unfold b_fork
    rw [sSeq_nx (σ1 := [some (.ref s), some (.int i), none, none, none, none]) (st1 := st) (by simp [sExpr, mCall, gp_check_process, mCons, mNil, mVar, Res.bind, check_ok S h, Res.toS])]
    rw [sSeq_nx (σ1 := [some (.ref s), some (.int i), some (.ref st.nx), none, none, none]) (st1 := s1) (by simp [sSet, mCall, gp_child_pages, mCons, mNil, mVar, Res.bind, e1, Res.toS])]
    rw [sSeq_nx (σ1 := [some (.ref s), some (.int i), some (.ref st.nx), none, none, none]) (st1 := s2) (by
      have v0 : mVar 0 [some (.ref s), some (.int i), some (.ref st.nx), none, none, none] s1 = .ok (.ref s) s1 := rfl
      simp only [sExpr, mCall, gp_check_charge_d2, mCons, mNil, v0, Res.bind, e2]
      simp [charge_at S2, Res.toS])]
    rw [sSeq_nx (σ1 := [some (.ref s), some (.int i), some (.ref st.nx), some (.int (last + 1)), none, none]) (st1 := s3) (by simp [sSet, mCall, gp_new_process, mCons, mNil, mVar, Res.bind, e3, Res.toS])]
    rw [sSeq_nx (σ1 := [some (.ref s), some (.int i), some (.ref st.nx), some (.int (last + 1)), none, none]) (st1 := s3.set E.sp (.dct (kv (al ++ [(last + 1, st.nx)])) false)) (by
      have len : (kv (al ++ [(last + 1, s2.nx)])).length + 1 ≤ 16777216 := by unfold kv; rw [List.length_map, List.length_append]; show al.length + 1 + 1 ≤ _; omega
      simp [sSetIx, mVar, mFld, Res.toS, Res.bind, insOf, S3.a, sys_spaces, setP, S3.b, kv_fit, sz, len, kv_last (al := al) (j := last + 1) (d := s2.nx) (fun p hp => by have := (S.le p hp).2; omega)])]
    rw [sSeq_nx (σ1 := [some (.ref s), some (.int i), some (.ref st.nx), some (.int (last + 1)), none, none]) (lock_empty (d := st.nx) rfl q4 rfl)]
    simp [sSeq, sExpr, mMeth, mVar, mNil, gp_System_done, Res.bind, insOf, S5.a, e6, Res.toS, ResS.seq, sRet, outV]
  · have := b6.nx; rw [Sto.nx_set, Sto.nx_set, Sto.nx_set] at this; omega
  · rw [b6.eq m (by rw [Sto.nx_set, Sto.nx_set, Sto.nx_set]; omega) h2, k5.eq m (by rw [Sto.nx_set]; omega), Sto.get_set, if_neg h3, o3 m (by omega) h2 h3, k2.eq m (by omega), k1.eq m h1]
theorem kv_del : ∀ {al : List (Int × Nat)} {j : Nat} {i : Int} {d : Nat}, (al.map (·.1)).Pairwise (· < ·) → al[j]? = some (i, d) → ddelP (kv al) (.int i) = kv (al.eraseIdx j)
  | [], _, _, _, _, h => by simp at h
  | p :: r, 0, i, d, pw, h => by
    simp at h
    subst h
    have hx : ∀ x ∈ kv r, decide (x.1 ≠ PV.int i) = true := fun x hx => by
      obtain ⟨z, hz, rfl⟩ := List.mem_map.mp hx
      have : i < z.1 := (List.pairwise_cons.mp pw).1 z.1 (List.mem_map.mpr ⟨_, hz, rfl⟩)
      simp
      omega
    show List.filter _ ((.int i, .ref d) :: kv r) = _
    rw [List.filter_cons, if_neg (by simp), List.filter_eq_self.mpr hx]
    rfl
  | p :: r, j + 1, i, d, pw, h => by
    have h : r[j]? = some (i, d) := by simpa using h
    have hm : (i, d) ∈ r := List.mem_of_getElem? h
    have h1 : p.1 < i := (List.pairwise_cons.mp pw).1 i (List.mem_map.mpr ⟨_, hm, rfl⟩)
    have ih := kv_del (List.pairwise_cons.mp pw).2 h
    show List.filter _ ((.int p.1, .ref p.2) :: kv r) = (.int p.1, .ref p.2) :: kv (r.eraseIdx j)
    rw [List.filter_cons, if_pos (by simp; omega), ← ih]
    rfl
theorem leave_at {st : Sto} {E : SE} {s : Nat} {step last : Int} {al : List (Int × Nat)} (S : Sys st E s step last al) (hs : s ≠ E.sp) (hl : al.length < 64) {i : Int} {d j : Nat} (hj : al[j]? = some (i, d)) :
    ∃ st', p_leave [.ref s, .int i] st = .ok .non st' ∧ Sys st' E s (step + 1) last (al.eraseIdx j) ∧ st.nx ≤ st'.nx ∧ ∀ m, m < st.nx → m ≠ s → m ≠ E.sp → st'.get m = st.get m := by
  have h : (i, d) ∈ al := List.mem_of_getElem? hj
  have k1 : Keep st (st.add (.lst [])) := Keep.add
  have S1 := S.keep k1
  have em := (S.em _ h).1
  have gn : (st.add (.lst [])).get st.nx = some (.lst []) := get_add_new
  have sub : ∀ p ∈ al.eraseIdx j, p ∈ al := fun p hp => (List.eraseIdx_sublist al j).subset hp
  have old : ∀ m o, m ≠ E.sp → (st.add (.lst [])).get m = some o → ((st.add (.lst [])).set E.sp (.dct (kv (al.eraseIdx j)) false)).get m = some o := fun m o h k => by rw [Sto.get_set, if_neg h]; exact k
  have S2 : Sys ((st.add (.lst [])).set E.sp (.dct (kv (al.eraseIdx j)) false)) E s step last (al.eraseIdx j) := by
    refine ⟨old _ _ hs S1.a, get_set_same S1.b, old _ _ (Ne.symm S1.ne) S1.c, old _ _ (fun z => ?_) S1.d, old _ _ (fun z => ?_) S1.e, S1.ne, ?_, fun p hp => S1.le p (sub p hp), fun p hp => ?_⟩
    · have := S1.d; rw [z, S1.b] at this; cases this
    · have := S1.e; rw [z, S1.b] at this; cases this
    · exact S.pw.sublist ((List.eraseIdx_sublist al j).map _)
    · obtain ⟨x1, x2, x3⟩ := S1.em p (sub p hp)
      exact ⟨old _ _ x2 x1, x2, x3⟩
  have lj : (al.eraseIdx j).length ≤ al.length := (List.eraseIdx_sublist al j).length_le
  obtain ⟨s3, e3, S3, b3⟩ := done_at S2 hs (by omega)
  refine ⟨s3, ?_, S3, ?_, fun m h1 h2 h3 => ?_⟩
  · have x1 : p_leave [.ref s, .int i] st = outV (b_leave [some (.ref s), some (.int i), none] st) := rfl
    have kd : keysD (.ref d) st = some [] := by
      unfold keysD
      simp only [em]
      rfl
    have e : gOr (gNewL lisL) (gOr (gNewL lisD) (gNewL lisT)) [.ref d] st = some (.ref st.nx, st.add (.lst [])) := by
      have e1 : gNewL lisL [.ref d] st = none := by simp [gNewL, lisL, lstOf, em]
      have e2 : lisD [.ref d] st = some [] := by simp [lisD, kd]
      unfold gOr
      rw [e1]
      simp [gNewL, e2, gOr]
    rw [x1]
    unfold b_leave
    rw [sSeq_nx (σ1 := [some (.ref s), some (.int i), none]) (st1 := st) (by simp [sExpr, mCall, gp_check_process, mCons, mNil, mVar, Res.bind, check_ok S h, Res.toS])]
    rw [sSeq_nx (σ1 := [some (.ref s), some (.int i), none]) (st1 := st.add (.lst [])) (by
      simp only [sFor, mwE, mB, mCons, mNil, Res.bind, space_ix S.a S.b S.pw h (σ := [some (.ref s), some (.int i), none]) rfl rfl, e]
      simp [walkV, gn, Res.toS, forGo, chk])]
    have dg := kv_get S.pw h
    rw [sSeq_nx (σ1 := [some (.ref s), some (.int i), none]) (st1 := (st.add (.lst [])).set E.sp (.dct (kv (al.eraseIdx j)) false)) (by
      simp [sDel, mFld, mVar, Res.bind, Res.toS, insOf, S1.a, sys_spaces, delP, S1.b, kv_fit, dg, kv_del S.pw hj])]
    simp [sExpr, mMeth, mVar, mNil, gp_System_done, Res.bind, insOf, S2.a, e3, Res.toS, outV]
  · have := b3.nx; rw [Sto.nx_set, Sto.nx_add] at this; omega
  · rw [b3.eq m (by rw [Sto.nx_set, Sto.nx_add]; omega) h2, Sto.get_set, if_neg h3, k1.eq m h1]
end LW
set_option linter.all false
set_option maxRecDepth 100000
set_option maxHeartbeats 8000000
namespace LW
open MP PySem L2
def sysG (E : SE) (x1 x2 x3 : PV) : List (Str × PV) := [("frames", x1), ("slots", x2), ("strict", x3), ("spaces", .ref E.sp), ("objects", .ref E.ob), ("catalogue", .ref E.ct), ("disks", .ref E.dk), ("step", .int 0), ("last_process", .int 0), ("last_object", .int 0), ("last_item", .int 0), ("most_locked", .int 0), ("stack", .ref E.sk), ("memory", .ref E.mem)]
def tst1 (i : Nat) (lo hi : Int) : MT := mAndT (mTru (mOp oNotN (mVar i) (mC .non))) (mNotT (mTru (mCall p_is_between gp_is_between (mCons (mVar i) (mCons (mC (.int lo)) (mCons (mC (.int hi)) mNil))))))
def tst1L (i : Nat) (lo hi : Int) : MT := mAndT (mTru (mOp oNotN (mVar i) (mC .non))) (mNotT (mTru (mCall p__law_is_number gp__law_is_number (mCons (mVar i) (mCons (mC (.int lo)) (mCons (mC (.int hi)) mNil))))))
def tst3 : MT := mOrT (mNotT (mTru (mB gIsi (mCons (mVar 3) (mCons (mC (.ty "bool")) mNil))))) (mAndT (mTru (mVar 3)) (mOrT (mTru (mOp oIsN (mVar 1) (mC .non))) (mTru (mOp oIsN (mVar 2) (mC .non)))))
def ini3 (R : MS) : MS := (sSeq (sIf (tst1 1 1 64) (sRaise1 1 "part" (mC (.str "frames"))) sSkip)
    (sSeq (sIf (tst1 2 0 256) (sRaise1 1 "part" (mC (.str "slots"))) sSkip)
    (sSeq (sIf tst3 (sRaise1 1 "part" (mC (.str "strict"))) sSkip)
    R)))
theorem init1G {st : Sto} {n : Nat} {σ : Sl} {x1 x2 x3 : PV} (h : st.get n = some (.ins 6 [])) (hs : σ = [some (.ref n), some x1, some x2, some x3]) : ∃ st1, (∀ R : MS, ((sSeq (sFldM 6 "frames" (mVar 0) (mVar 1))
    (sSeq (sFldM 6 "slots" (mVar 0) (mVar 2))
    (sSeq (sFldM 6 "strict" (mVar 0) (mVar 3))
    (sSeq (sFldM 6 "spaces" (mVar 0) mDict0)
    (sSeq (sFldM 6 "objects" (mVar 0) mDict0)
    (sSeq (sFldM 6 "catalogue" (mVar 0) mDict0)
    (sSeq (sFldM 6 "disks" (mVar 0) mDict0)
    (sSeq (sFldM 6 "step" (mVar 0) (mC (.int 0)))
    (sSeq (sFldM 6 "last_process" (mVar 0) (mC (.int 0)))
    (sSeq (sFldM 6 "last_object" (mVar 0) (mC (.int 0)))
    (sSeq (sFldM 6 "last_item" (mVar 0) (mC (.int 0)))
    (sSeq (sFldM 6 "most_locked" (mVar 0) (mC (.int 0)))
    R)))))))))))) : MS) σ st = R σ st1) ∧
    st1.get n = some (.ins 6 [("frames", x1), ("slots", x2), ("strict", x3), ("spaces", .ref st.nx), ("objects", .ref (st.nx + 1)), ("catalogue", .ref (st.nx + 2)), ("disks", .ref (st.nx + 3)), ("step", .int 0), ("last_process", .int 0), ("last_object", .int 0), ("last_item", .int 0), ("most_locked", .int 0)]) ∧
    st1.get st.nx = some (.dct [] false) ∧ st1.get (st.nx + 1) = some (.dct [] false) ∧ st1.nx = st.nx + 4 ∧ But n st st1 := by
  have hlt := Sto.lt_nx h
  have h1 : ∀ k, (n = st.nx + k) = False := fun k => by simp; omega
  have h2 : (n = st.nx) = False := by simp; omega
  have h3 : ∀ k, (st.nx + k = n) = False := fun k => by simp; omega
  have h4 : (st.nx = n) = False := by simp; omega
  have i0 : σ[0]? = some (some (.ref n)) := by rw [hs]; rfl
  have i1 : σ[1]? = some (some x1) := by rw [hs]; rfl
  have i2 : σ[2]? = some (some x2) := by rw [hs]; rfl
  have i3 : σ[3]? = some (some x3) := by rw [hs]; rfl
  clear hs
  refine ⟨_, fun R => by
    simp (decide := true) [sSeq, mVar, mC, Res.toS, ResS.seq, sFldM, insOf, putP, mDict0, mkNew, Sto.get_add, Sto.get_set, Sto.nx_set, Sto.nx_add, Nat.add_assoc, h, h1, h2, h3, h4, i0, i1, i2, i3]
    rfl, ?_, ?_, ?_, ?_, ?_⟩
  · simp (decide := true) [Sto.get_add, Sto.get_set, Sto.nx_set, Sto.nx_add, Nat.add_assoc, h, h1, h2, h3, h4]
  · simp (decide := true) [Sto.get_add, Sto.get_set, Sto.nx_set, Sto.nx_add, Nat.add_assoc, h, h1, h2, h3, h4]
  · simp (decide := true) [Sto.get_add, Sto.get_set, Sto.nx_set, Sto.nx_add, Nat.add_assoc, h, h1, h2, h3, h4]
  · simp (decide := true) [Sto.get_add, Sto.get_set, Sto.nx_set, Sto.nx_add, Nat.add_assoc, h, h1, h2, h3, h4]
  · exact ⟨by simp [Sto.nx_set, Sto.nx_add]; omega, fun m q1 q2 => by
      have g1 : ∀ k, (m = st.nx + k) = False := fun k => by simp; omega
      have g2 : (m = st.nx) = False := by simp; omega
      simp [Sto.get_add, Sto.get_set, Sto.nx_set, Sto.nx_add, Nat.add_assoc, q2, g1, g2]⟩
theorem sys_newG {σ : Sl} {st : Sto} {x1 x2 x3 : PV} {gk : MEs} (hgk : gk σ st = .ok [x1, x2, x3] st) (hT : ∀ R : MS, (ini3 R) [some (.ref st.nx), some x1, some x2, some x3] (st.add (.ins 6 [])) = R [some (.ref st.nx), some x1, some x2, some x3] (st.add (.ins 6 []))) :
    ∃ E st', mMake 6 p_System___init__ gp_System___init___kframes_slots_strict mNil gk σ st = .ok (.ref st.nx) st' ∧ st'.get st.nx = some (.ins 6 (sysG E x1 x2 x3)) ∧ st'.get E.sp = some (.dct [] false) ∧ ∀ n, But n st st' := by
  have h0 : (st.add (.ins 6 [])).get st.nx = some (.ins 6 []) := get_add_new
  have n0 : (st.add (.ins 6 [])).nx = st.nx + 1 := Sto.nx_add _ _
  obtain ⟨st1, r1, g1, g2, g3, g4, b1⟩ := init1G (st := st.add (.ins 6 [])) (n := st.nx) (σ := [some (.ref st.nx), some x1, some x2, some x3]) h0 rfl
  rw [n0] at g1 g2 g3 g4
  obtain ⟨E1, st2, e2, k1, k2, k3, b2⟩ := make_stack (σ := [some (.ref st.nx), some x1, some x2, some x3]) (st := st1)
  have q1 := (b2 0).eq
  have l1 : st.nx < st1.nx := by omega
  have w1 : st2.get st.nx = st1.get st.nx := (b2 (st1.nx + 1)).eq _ l1 (by omega)
  have f1 := fld_step (f := "stack") (fe := mMake 5 p_Stack___init__ gp_Stack___init__ mNil mNil) (σ := [some (.ref st.nx), some x1, some x2, some x3]) e2 rfl (w1.trans g1) (by simp)
  obtain ⟨st4, e4, b4⟩ := make_mem (σ := [some (.ref st.nx), some x1, some x2, some x3]) (st := st2.set st.nx (.ins 6 (putP "stack" (.ref st1.nx) [("frames", x1), ("slots", x2), ("strict", x3), ("spaces", .ref (st.nx + 1)), ("objects", .ref (st.nx + 1 + 1)), ("catalogue", .ref (st.nx + 1 + 2)), ("disks", .ref (st.nx + 1 + 3)), ("step", .int 0), ("last_process", .int 0), ("last_object", .int 0), ("last_item", .int 0), ("most_locked", .int 0)]))) (g := mCons (mVar 0) mNil) (x := .ref st.nx) rfl
  have hx2 := (b2 0).nx
  have hx4 := (b4 0).nx
  rw [Sto.nx_set] at hx4
  have w2 : st4.get st.nx = _ := ((b4 (st2.nx + 1)).eq st.nx (by rw [Sto.nx_set]; omega) (by omega)).trans (get_set_same (w1.trans g1))
  have f2 := fld_step (f := "memory") (fe := mMake 4 p_Memory___init__ gp_Memory___init__ (mCons (mVar 0) mNil) mNil) (σ := [some (.ref st.nx), some x1, some x2, some x3]) e4 rfl w2 (by simp (decide := true) [putP])
  rw [show ∀ l, putP "memory" (.ref (st2.set st.nx (.ins 6 l)).nx) (putP "stack" (.ref st1.nx) [("frames", x1), ("slots", x2), ("strict", x3), ("spaces", .ref (st.nx + 1)), ("objects", .ref (st.nx + 1 + 1)), ("catalogue", .ref (st.nx + 1 + 2)), ("disks", .ref (st.nx + 1 + 3)), ("step", .int 0), ("last_process", .int 0), ("last_object", .int 0), ("last_item", .int 0), ("most_locked", .int 0)]) = sysG { sp := st.nx + 1, ob := st.nx + 1 + 1, ct := st.nx + 1 + 2, dk := st.nx + 1 + 3, sk := st1.nx, mem := st2.nx, rw_ := E1.rw_, o := E1.o } x1 x2 x3 from fun l => by simp (decide := true) [putP, sysG, Sto.nx_set]] at f2
  have old : ∀ m o, m ≠ st.nx → st1.get m = some o → st4.get m = some o := fun m o hm h => by
    have lm := Sto.lt_nx h
    rw [(b4 (st2.nx + 1)).eq m (by rw [Sto.nx_set]; omega) (by omega), Sto.get_set, if_neg hm, (b2 (st1.nx + 1)).eq m lm (by omega)]
    exact h
  have old2 : ∀ m o, m ≠ st.nx → st2.get m = some o → st4.get m = some o := fun m o hm h => by
    have lm := Sto.lt_nx h
    rw [(b4 (st2.nx + 1)).eq m (by rw [Sto.nx_set]; omega) (by omega), Sto.get_set, if_neg hm]
    exact h
  refine ⟨{ sp := st.nx + 1, ob := st.nx + 1 + 1, ct := st.nx + 1 + 2, dk := st.nx + 1 + 3, sk := st1.nx, mem := st2.nx, rw_ := E1.rw_, o := E1.o }, st4.set st.nx (.ins 6 (sysG { sp := st.nx + 1, ob := st.nx + 1 + 1, ct := st.nx + 1 + 2, dk := st.nx + 1 + 3, sk := st1.nx, mem := st2.nx, rw_ := E1.rw_, o := E1.o } x1 x2 x3)), ?_, ?_, ?_, fun n => ⟨by rw [Sto.nx_set]; omega, fun m h1 h2 => ?_⟩⟩
  · unfold mMake
    have e : p_System___init__ [.ref st.nx, x1, x2, x3] (st.add (.ins 6 [])) = .ok .non (st4.set st.nx (.ins 6 (sysG { sp := st.nx + 1, ob := st.nx + 1 + 1, ct := st.nx + 1 + 2, dk := st.nx + 1 + 3, sk := st1.nx, mem := st2.nx, rw_ := E1.rw_, o := E1.o } x1 x2 x3))) := by
      unfold p_System___init__ runB b_System___init__
      rw [show slots 4 [.ref st.nx, x1, x2, x3] = [some (.ref st.nx), some x1, some x2, some x3] from rfl]
      show outV (ini3 _ _ _) = _
      rw [hT, r1, sSeq_nx f1, f2]
      rfl
    simp [mNil, Res.bind, hgk, gp_System___init___kframes_slots_strict, e]
  · exact get_set_same w2
  · rw [Sto.get_set, if_neg (by show ¬ st.nx + 1 = st.nx; omega)]
    exact old _ _ (by show ¬ st.nx + 1 = st.nx; omega) g2
  · rw [Sto.get_set, if_neg (by omega), (b4 (st2.nx + 1)).eq m (by rw [Sto.nx_set]; omega) (by omega), Sto.get_set, if_neg (by omega), (b2 (st1.nx + 1)).eq m (by omega) (by omega), b1.eq m (by omega) (by omega), Sto.get_add, if_neg (by omega)]
end LW
set_option linter.all false
set_option maxRecDepth 100000
set_option maxHeartbeats 8000000
namespace LW
open MP PySem L2
/-- a drawn argument -/
def Arg (st : Sto) : PV → Prop
  | .non => True
  | .bl _ => True
  | .int _ => True
  | .str _ => True
  | .ref n => st.get n = some (.lst []) ∨ st.get n = some (.dct [] false)
  | _ => False
theorem Arg.keep {st st' : Sto} (k : Keep st st') : ∀ {x : PV}, Arg st x → Arg st' x
  | .non, _ => trivial
  | .bl _, _ => trivial
  | .int _, _ => trivial
  | .str _, _ => trivial
  | .ref n, h => h.imp k.get k.get
  | .tup _, h => h.elim
  | .ktp _, h => h.elim
  | .rls _, h => h.elim
  | .ty _, h => h.elim
theorem Arg.but {st st' : Sto} {w : Nat} (k : But w st st') : ∀ {x : PV}, Arg st x → x ≠ .ref w → Arg st' x
  | .non, _, _ => trivial
  | .bl _, _, _ => trivial
  | .int _, _, _ => trivial
  | .str _, _, _ => trivial
  | .ref n, h, q => h.imp (fun z => (k.eq n (Sto.lt_nx z) (fun y => q (by rw [y]))).trans z) (fun z => (k.eq n (Sto.lt_nx z) (fun y => q (by rw [y]))).trans z)
  | .tup _, h, _ => h.elim
  | .ktp _, h, _ => h.elim
  | .rls _, h, _ => h.elim
  | .ty _, h, _ => h.elim
def isB : PV → Bool
  | .bl _ => true
  | _ => false
def isI : PV → Bool
  | .bl _ => true
  | .int _ => true
  | _ => false
theorem gisi_b {st : Sto} : ∀ {x : PV}, Arg st x → gIsi [x, .ty "bool"] st = some (.bl (isB x), st)
  | .non, _ => rfl
  | .bl _, _ => rfl
  | .int _, _ => rfl
  | .str _, _ => rfl
  | .ref n, h => by
    rcases h with h | h
    · have e : tyOf (.ref n) st = some "list" := by simp [tyOf, h]
      unfold gIsi
      simp only [e]
      rfl
    · have e : tyOf (.ref n) st = some "dict" := by simp [tyOf, h]
      unfold gIsi
      simp only [e]
      rfl
  | .tup _, h => h.elim
  | .ktp _, h => h.elim
  | .rls _, h => h.elim
  | .ty _, h => h.elim
theorem gisi_i {st : Sto} : ∀ {x : PV}, Arg st x → gIsi [x, .ty "int"] st = some (.bl (isI x), st)
  | .non, _ => rfl
  | .bl _, _ => rfl
  | .int _, _ => rfl
  | .str _, _ => rfl
  | .ref n, h => by
    rcases h with h | h
    · have e : tyOf (.ref n) st = some "list" := by simp [tyOf, h]
      unfold gIsi
      simp only [e]
      rfl
    · have e : tyOf (.ref n) st = some "dict" := by simp [tyOf, h]
      unfold gIsi
      simp only [e]
      rfl
  | .tup _, h => h.elim
  | .ktp _, h => h.elim
  | .rls _, h => h.elim
  | .ty _, h => h.elim
def isN : PV → Bool
  | .non => true
  | _ => false
def inB (lo hi : Int) : PV → Bool
  | .int i => decide (lo ≤ i) && decide (i ≤ hi)
  | _ => false
theorem isint_at {st : Sto} {x : PV} (h : Arg st x) : p_is_integer [x] st = .ok (.bl (isI x && !isB x)) st := by
  unfold p_is_integer runB b_is_integer
  simp [slots, sRet, mAnd, mB, mCons, mNil, mVar, mC, mNot, Res.bind, gisi_i h, gisi_b h, truP]
  cases isI x <;> simp [Res.toS, outV]
theorem btw_at {st : Sto} {x : PV} {lo hi : Int} (h : Arg st x) : p_is_between [x, .int lo, .int hi] st = .ok (.bl (inB lo hi x)) st := by
  unfold p_is_between runB b_is_between
  simp [slots, sRet, mAnd, mCall, gp_is_integer, mCons, mNil, mVar, mChain, Res.bind, isint_at h, truP]
  cases x <;> simp [isI, isB, inB, Res.toS, outV, oLe, opII]
  case int i => by_cases q : lo ≤ i <;> simp [q, Res.bind, Res.toS, outV]
theorem lnum_at {st : Sto} {x : PV} {lo hi : Int} (h : Arg st x) : p__law_is_number [x, .int lo, .int hi] st = .ok (.bl (inB lo hi x)) st := by
  unfold p__law_is_number runB b__law_is_number
  simp [slots, sRet, mAnd, mNot, mB, mC, mCons, mNil, mVar, mChain, Res.bind, gisi_i h, gisi_b h, truP]
  cases x <;> simp [isI, isB, inB, Res.toS, outV, oLe, opII, truP, Res.bind]
  case int i => by_cases q : lo ≤ i <;> simp [q, Res.bind, Res.toS, outV]
def bad1 (lo hi : Int) (x : PV) : Bool := !isN x && !inB lo hi x
theorem notN_at {st : Sto} (x : PV) : oNotN x .non st = .ok (.bl (!isN x)) st := by cases x <;> rfl
theorem isN_at {st : Sto} (x : PV) : oIsN x .non st = .ok (.bl (isN x)) st := by cases x <;> rfl
theorem tst1_at {st : Sto} {σ : Sl} {i : Nat} {x : PV} {lo hi : Int} (h : Arg st x) (hi_ : σ[i]? = some (some x)) : tst1 i lo hi σ st = .ok (bad1 lo hi x) st := by
  unfold tst1 bad1
  simp [mAndT, mTru, mOp, mVar, hi_, mC, mNotT, mCall, mCons, mNil, gp_is_between, Res.bind, notN_at, truP, btw_at h]
  cases isN x <;> simp
theorem tst1L_at {st : Sto} {σ : Sl} {i : Nat} {x : PV} {lo hi : Int} (h : Arg st x) (hi_ : σ[i]? = some (some x)) : tst1L i lo hi σ st = .ok (bad1 lo hi x) st := by
  unfold tst1L bad1
  simp [mAndT, mTru, mOp, mVar, hi_, mC, mNotT, mCall, mCons, mNil, gp__law_is_number, Res.bind, notN_at, truP, lnum_at h]
  cases isN x <;> simp
def bad3 (x1 x2 x3 : PV) : Bool := match x3 with
  | .bl b => b && (isN x1 || isN x2)
  | _ => true
theorem tst3_at {st : Sto} {σ : Sl} {x1 x2 x3 : PV} (h : Arg st x3) (h1 : σ[1]? = some (some x1)) (h2 : σ[2]? = some (some x2)) (h3 : σ[3]? = some (some x3)) : tst3 σ st = .ok (bad3 x1 x2 x3) st := by
  unfold tst3 bad3
  simp [mOrT, mNotT, mAndT, mTru, mB, mCons, mNil, mOp, mVar, h1, h2, h3, mC, Res.bind, gisi_b h, truP, isN_at]
  cases x3 <;> simp [isB, truP]
  case bl b =>
    cases b <;> simp
    cases isN x1 <;> simp
end LW
set_option linter.all false
set_option maxRecDepth 100000
set_option maxHeartbeats 8000000
namespace LW
open MP PySem L2
theorem Well.keep {st st' : Sto} {n : Nat} {m : Int} (W : Well st n m) (k : Keep st st') : Well st' n m := by
  obtain ⟨a, b, c, h1, h2⟩ := W
  exact ⟨a, b, c, k.get h1, h2⟩
theorem Well.le {st : Sto} {n : Nat} {m m' : Int} (W : Well st n m) (h : m ≤ m') : Well st n m' := by
  obtain ⟨a, b, c, h1, h2, h3, h4, h5⟩ := W
  exact ⟨a, b, c, h1, h2, h3, h4, by omega⟩
theorem Well.lt {st : Sto} {n : Nat} {m : Int} (W : Well st n m) : n < st.nx := by
  obtain ⟨a, b, c, h1, h2⟩ := W
  exact Sto.lt_nx h1
theorem Keep.but {st st' : Sto} {n : Nat} (k : Keep st st') : But n st st' := ⟨k.nx, fun m h _ => k.eq m h⟩
theorem eq11 (st : Sto) : oEq (.int 1) (.int 1) st = .ok (.bl true) st := by rfl
theorem eq10 (st : Sto) : oEq (.int 1) (.int 0) st = .ok (.bl false) st := by rfl
abbrev me1 : MEs := (mCons (mC .non) (mCons (mC (.int 1)) (mCons (mC (.int 64)) (mCons (mC (.int 0)) (mCons (mC (.int 65)) (mCons (mNeg (mC (.int 1))) (mCons (mC (.str "4")) (mCons (mOp oEq (mC (.int 1)) (mC (.int 1))) (mCons (mLst mNil) (mCons mDict0 (mCons (mOp oAdd (mC (.int 1)) (mCall p__law_draw gp__law_draw (mCons (mVar 0) (mCons (mC (.int 64)) mNil)))) mNil)))))))))))
abbrev me2 : MEs := (mCons (mC .non) (mCons (mC (.int 0)) (mCons (mC (.int 256)) (mCons (mC (.int 257)) (mCons (mNeg (mC (.int 1))) (mCons (mC (.str "4")) (mCons (mOp oEq (mC (.int 1)) (mC (.int 0))) (mCons (mLst mNil) (mCons mDict0 (mCons (mCall p__law_draw gp__law_draw (mCons (mVar 0) (mCons (mC (.int 257)) mNil))) mNil))))))))))
abbrev me3 : MEs := (mCons (mOp oEq (mC (.int 1)) (mC (.int 1))) (mCons (mOp oEq (mC (.int 1)) (mC (.int 0))) (mCons (mOp oEq (mC (.int 1)) (mC (.int 0))) (mCons (mC .non) (mCons (mC (.int 0)) (mCons (mC (.int 1)) (mCons (mC (.str "")) (mCons (mLst mNil) (mCons mDict0 mNil)))))))))
/-- the choice, once the items are known -/
theorem choose {st s1 : Sto} {w : Nat} {m : Int} {σ : Sl} {ms : MEs} {xs : List PV} (h0 : σ[0]? = some (some (.ref w))) (e1 : ms σ st = .ok xs s1) (W : Well s1 w m) (hm : m < 1000000000000) (b : But w st s1) (hx : ∀ x ∈ xs, Arg s1 x ∧ x ≠ .ref w) (l0 : 0 < xs.length) (l1 : xs.length < 1000) :
    ∃ x st', mCall p__law_one gp__law_one (mCons (mVar 0) (mCons (mLst ms) mNil)) σ st = .ok x st' ∧ Arg st' x ∧ x ≠ .ref w ∧ Well st' w (m + 1) ∧ But w st st' := by
  have lw := W.lt
  obtain ⟨j, x, s3, ej, e3, W3, b3⟩ := one (W.keep (Keep.add (o := .lst xs))) (by omega) (get_add_new (st := s1) (o' := .lst xs)) (by omega) l0 (by omega)
  have hj := hx x (List.mem_of_getElem? ej)
  refine ⟨x, s3, ?_, Arg.but b3 (hj.1.keep Keep.add) hj.2, hj.2, W3, (b.trans Keep.add.but).trans b3⟩
  have len : xs.length ≤ 16777216 := by omega
  simp [mCall, gp__law_one, mCons, mNil, mVar, h0, Res.bind, mLst, e1, sz, len, mkNew, e3]
theorem choice1 {st : Sto} {w : Nat} {m : Int} {σ : Sl} (h0 : σ[0]? = some (some (.ref w))) (W : Well st w m) (hm : m < 100000000000) :
    ∃ x st', mCall p__law_one gp__law_one (mCons (mVar 0) (mCons (mLst me1) mNil)) σ st = .ok x st' ∧ Arg st' x ∧ x ≠ .ref w ∧ Well st' w (m + 2) ∧ But w st st' := by
  have lw := W.lt
  have k : Keep st ((st.add (.lst [])).add (.dct [] false)) := Keep.add.trans Keep.add
  obtain ⟨d, s1, e1, d0, d1, W1, b1⟩ := draw (many := 64) (W.keep k) (by omega) (by omega) (by omega)
  have g1 : s1.get st.nx = some (.lst []) := (b1.eq _ (by rw [Sto.nx_add, Sto.nx_add]; omega) (by omega)).trans (get_add_old get_add_new)
  have g2 : s1.get (st.nx + 1) = some (.dct [] false) := (b1.eq _ (by rw [Sto.nx_add, Sto.nx_add]; omega) (by omega)).trans (by
    have := get_add_new (st := st.add (.lst [])) (o' := .dct [] false)
    rw [Sto.nx_add] at this; exact this)
  obtain ⟨x, s2, e2, a2, n2, W2, b2⟩ := choose (ms := me1) (st := st) (s1 := s1) (xs := [.non, .int 1, .int 64, .int 0, .int 65, .int (-1), .str "4", .bl true, .ref st.nx, .ref (st.nx + 1), .int (1 + d)]) h0 (by
    simp [mCall, gp__law_draw, mCons, mNil, mVar, h0, Res.bind, mLst, mC, sz, mkNew, mNeg, mOp, eq11, mDict0, Sto.nx_add, oAdd, e1]) W1 (by omega) (k.but.trans b1) (fun x hx => by
    simp only [List.mem_cons, List.not_mem_nil, or_false] at hx
    rcases hx with rfl | rfl | rfl | rfl | rfl | rfl | rfl | rfl | rfl | rfl | rfl
    case inr.inr.inr.inr.inr.inr.inr.inr.inl => exact ⟨.inl g1, fun q => by cases q; omega⟩
    case inr.inr.inr.inr.inr.inr.inr.inr.inr.inl => exact ⟨.inr g2, fun q => by cases q; omega⟩
    all_goals exact ⟨trivial, fun q => nomatch q⟩) (by simp) (by simp)
  exact ⟨x, s2, e2, a2, n2, W2.le (by omega), b2⟩
theorem choice2 {st : Sto} {w : Nat} {m : Int} {σ : Sl} (h0 : σ[0]? = some (some (.ref w))) (W : Well st w m) (hm : m < 100000000000) :
    ∃ x st', mCall p__law_one gp__law_one (mCons (mVar 0) (mCons (mLst me2) mNil)) σ st = .ok x st' ∧ Arg st' x ∧ x ≠ .ref w ∧ Well st' w (m + 2) ∧ But w st st' := by
  have lw := W.lt
  have k : Keep st ((st.add (.lst [])).add (.dct [] false)) := Keep.add.trans Keep.add
  obtain ⟨d, s1, e1, d0, d1, W1, b1⟩ := draw (many := 257) (W.keep k) (by omega) (by omega) (by omega)
  have g1 : s1.get st.nx = some (.lst []) := (b1.eq _ (by rw [Sto.nx_add, Sto.nx_add]; omega) (by omega)).trans (get_add_old get_add_new)
  have g2 : s1.get (st.nx + 1) = some (.dct [] false) := (b1.eq _ (by rw [Sto.nx_add, Sto.nx_add]; omega) (by omega)).trans (by
    have := get_add_new (st := st.add (.lst [])) (o' := .dct [] false)
    rw [Sto.nx_add] at this; exact this)
  obtain ⟨x, s2, e2, a2, n2, W2, b2⟩ := choose (ms := me2) (st := st) (s1 := s1) (xs := [.non, .int 0, .int 256, .int 257, .int (-1), .str "4", .bl false, .ref st.nx, .ref (st.nx + 1), .int d]) h0 (by
    simp [mCall, gp__law_draw, mCons, mNil, mVar, h0, Res.bind, mLst, mC, sz, mkNew, mNeg, mOp, eq10, mDict0, Sto.nx_add, e1]) W1 (by omega) (k.but.trans b1) (fun x hx => by
    simp only [List.mem_cons, List.not_mem_nil, or_false] at hx
    rcases hx with rfl | rfl | rfl | rfl | rfl | rfl | rfl | rfl | rfl | rfl
    case inr.inr.inr.inr.inr.inr.inr.inl => exact ⟨.inl g1, fun q => by cases q; omega⟩
    case inr.inr.inr.inr.inr.inr.inr.inr.inl => exact ⟨.inr g2, fun q => by cases q; omega⟩
    all_goals exact ⟨trivial, fun q => nomatch q⟩) (by simp) (by simp)
  exact ⟨x, s2, e2, a2, n2, W2.le (by omega), b2⟩
theorem choice3 {st : Sto} {w : Nat} {m : Int} {σ : Sl} (h0 : σ[0]? = some (some (.ref w))) (W : Well st w m) (hm : m < 100000000000) :
    ∃ x st', mCall p__law_one gp__law_one (mCons (mVar 0) (mCons (mLst me3) mNil)) σ st = .ok x st' ∧ Arg st' x ∧ x ≠ .ref w ∧ Well st' w (m + 1) ∧ But w st st' := by
  have lw := W.lt
  have k : Keep st ((st.add (.lst [])).add (.dct [] false)) := Keep.add.trans Keep.add
  have g1 : ((st.add (.lst [])).add (.dct [] false)).get st.nx = some (.lst []) := get_add_old get_add_new
  have g2 : ((st.add (.lst [])).add (.dct [] false)).get (st.nx + 1) = some (.dct [] false) := by
    have := get_add_new (st := st.add (.lst [])) (o' := .dct [] false)
    rw [Sto.nx_add] at this; exact this
  exact choose (ms := me3) (st := st) (s1 := (st.add (.lst [])).add (.dct [] false)) (xs := [.bl true, .bl false, .bl false, .non, .int 0, .int 1, .str "", .ref st.nx, .ref (st.nx + 1)]) h0 (by
    simp [mCons, mNil, Res.bind, mLst, mC, sz, mkNew, mOp, eq10, eq11, mDict0, Sto.nx_add]) (W.keep k) (by omega) k.but (fun x hx => by
    simp only [List.mem_cons, List.not_mem_nil, or_false] at hx
    rcases hx with rfl | rfl | rfl | rfl | rfl | rfl | rfl | rfl | rfl
    case inr.inr.inr.inr.inr.inr.inr.inl => exact ⟨.inl g1, fun q => by cases q; omega⟩
    case inr.inr.inr.inr.inr.inr.inr.inr => exact ⟨.inr g2, fun q => by cases q; omega⟩
    all_goals exact ⟨trivial, fun q => nomatch q⟩) (by simp) (by simp)
end LW
set_option linter.all false
set_option maxRecDepth 100000
set_option maxHeartbeats 8000000
namespace LW
open MP PySem L2
def badL (x1 x2 x3 : PV) : List PV := (if bad1 1 64 x1 = true then [.str "frames"] else []) ++ (if bad1 0 256 x2 = true then [.str "slots"] else []) ++ (if bad3 x1 x2 x3 = true then [.str "strict"] else [])
theorem sIf_t {t : MT} {f g : MS} {σ : Sl} {st : Sto} (h : t σ st = .ok true st) : sIf t f g σ st = f σ st := by unfold sIf; rw [h]; rfl
theorem sSet_nx {f : ME} {i : Nat} {σ : Sl} {st st1 : Sto} {v : PV} (h : f σ st = .ok v st1) : sSet i f σ st = .nx (σ.set i (some v)) st1 := by unfold sSet; rw [h]; rfl
theorem sSeq_err {f g : MS} {σ σ1 : Sl} {st st1 : Sto} {x : Exn} (h : f σ st = .err x σ1 st1) : sSeq f g σ st = .err x σ1 st1 := by unfold sSeq; rw [h]; rfl
theorem sSeq_rt {f g : MS} {σ : Sl} {st st1 : Sto} {x : PV} (h : f σ st = .rt x st1) : sSeq f g σ st = .rt x st1 := by unfold sSeq; rw [h]; rfl
theorem ini3_at (R : MS) {σ : Sl} {st : Sto} {x1 x2 x3 : PV} (h1 : σ[1]? = some (some x1)) (h2 : σ[2]? = some (some x2)) (h3 : σ[3]? = some (some x3)) (a1 : Arg st x1) (a2 : Arg st x2) (a3 : Arg st x3) :
    ini3 R σ st = match badL x1 x2 x3 with | [] => R σ st | w :: _ => .err ⟨1, [("part", w)]⟩ σ st := by
  unfold ini3 badL
  have t1 := tst1_at (lo := 1) (hi := 64) a1 h1
  have t2 := tst1_at (lo := 0) (hi := 256) a2 h2
  have t3 := tst3_at a3 h1 h2 h3
  cases c1 : bad1 1 64 x1 with
  | true =>
    rw [c1] at t1
    rw [sSeq_err (by rw [sIf_t t1]; rfl)]
    rfl
  | false =>
    rw [c1] at t1
    rw [sSeq_nx (by rw [sIf_f t1]; rfl)]
    cases c2 : bad1 0 256 x2 with
    | true =>
      rw [c2] at t2
      rw [sSeq_err (by rw [sIf_t t2]; rfl)]
      rfl
    | false =>
      rw [c2] at t2
      rw [sSeq_nx (by rw [sIf_f t2]; rfl)]
      cases c3 : bad3 x1 x2 x3 with
      | true =>
        rw [c3] at t3
        rw [sSeq_err (by rw [sIf_t t3]; rfl)]
        rfl
      | false =>
        rw [c3] at t3
        rw [sSeq_nx (by rw [sIf_f t3]; rfl)]
        rfl
abbrev addS (t : MT) (w : Str) : MS := sIf t (sExpr (mBM tpL gAppend (mVar 4) (mCons (mC (.str w)) mNil))) sSkip
theorem addif {t : MT} {σ : Sl} {st : Sto} {L : Nat} {xs : List PV} {c : Bool} {w : Str} (ht : t σ st = .ok c st) (h4 : σ[4]? = some (some (.ref L))) (hL : st.get L = some (.lst xs)) (hx : xs.length < 1000) :
    ∃ st', addS t w σ st = .nx σ st' ∧ st'.get L = some (.lst (xs ++ if c = true then [.str w] else [])) ∧ But L st st' := by
  cases c with
  | false => exact ⟨st, by rw [addS, sIf_f ht]; rfl, by simpa using hL, But.refl⟩
  | true =>
    refine ⟨st.set L (.lst (xs ++ [.str w])), ?_, get_set_same hL, But.set⟩
    have len : xs.length + 1 ≤ 16777216 := by omega
    rw [addS, sIf_t ht]
    simp [sExpr, mBM, mVar, h4, Res.bind, tpL, hL, mCons, mNil, mC, gAppend, ownL, sz, len, Res.toS]
theorem keep_but {s3 s4 s5 : Sto} {L : Nat} (k : Keep s3 s4) (b : But L s4 s5) (hL : s3.nx ≤ L) : Keep s3 s5 := ⟨Nat.le_trans k.nx b.nx, fun m h => (b.eq m (Nat.lt_of_lt_of_le h k.nx) (by omega)).trans (k.eq m h)⟩
theorem eqP_str (st : Sto) (n : Nat) (a : Str) : eqP st (n + 1) (.str a) (.str a) = some true := by
  simp [eqP, oneRef, eqN, seqOf, lstOf, eqS, vOf, eqV]
theorem badL_str (x1 x2 x3 : PV) : ∀ w ∈ badL x1 x2 x3, ∃ a : Str, w = .str a := by
  intro w hw
  unfold badL at hw
  rcases List.mem_append.mp hw with hw | hw
  · rcases List.mem_append.mp hw with hw | hw
    · split at hw <;> simp at hw; exact ⟨_, hw⟩
    · split at hw <;> simp at hw; exact ⟨_, hw⟩
  · split at hw <;> simp at hw; exact ⟨_, hw⟩
end LW
set_option linter.all false
set_option maxRecDepth 100000
set_option maxHeartbeats 8000000
namespace LW
open MP PySem L2
abbrev gk3 : MEs := (mCons (mVar 1) (mCons (mVar 2) (mCons (mVar 3) mNil)))
abbrev mk3 : ME := mMake 6 p_System___init__ gp_System___init___kframes_slots_strict mNil gk3
def bsr2 : MS := (sSeq (sIf (mTru (mOp oNe (mVar 4) (mLst mNil)))
    (sRet (mOp oEq (mVar 5) (mTup (mCons (mC (.str "system")) (mCons (mIx (mVar 4) (mC (.int 0))) mNil)))))
    sSkip)
    (sRet (mAnd (mOp oEq (mCall p_processes gp_processes (mCons (mVar 5) mNil)) (mLst mNil)) (mOp oEq (mCall p_now gp_now (mCons (mVar 5) mNil)) (mC (.int 0))))))
def bsr : MS := (sSeq (sSet 1 (mCall p__law_one gp__law_one (mCons (mVar 0) (mCons (mLst me1) mNil))))
    (sSeq (sSet 2 (mCall p__law_one gp__law_one (mCons (mVar 0) (mCons (mLst me2) mNil))))
    (sSeq (sSet 3 (mCall p__law_one gp__law_one (mCons (mVar 0) (mCons (mLst me3) mNil))))
    (sSeq (sSet 4 (mLst mNil))
    (sSeq (addS (tst1L 1 1 64) "frames")
    (sSeq (addS (tst1L 2 0 256) "slots")
    (sSeq (addS tst3 "strict")
    (sSeq (sSet 5 (mLam (subOf subT) hs__law_said N__law_said.length mk3))
    bsr2))))))))
theorem bsr_eq : b__law_system_right = bsr := rfl
theorem mk3_bad {σ : Sl} {st : Sto} {x1 x2 x3 : PV} (h1 : σ[1]? = some (some x1)) (h2 : σ[2]? = some (some x2)) (h3 : σ[3]? = some (some x3)) (a1 : Arg st x1) (a2 : Arg st x2) (a3 : Arg st x3) {a : PV} {r : List PV} (hb : badL x1 x2 x3 = a :: r) :
    mk3 σ st = .err ⟨1, [("part", a)]⟩ (st.add (.ins 6 [])) := by
  have k : Keep st (st.add (.ins 6 [])) := Keep.add
  have e : p_System___init__ [.ref st.nx, x1, x2, x3] (st.add (.ins 6 [])) = .err ⟨1, [("part", a)]⟩ (st.add (.ins 6 [])) := by
    show outV (ini3 _ [some (.ref st.nx), some x1, some x2, some x3] _) = _
    rw [ini3_at _ rfl rfl rfl (a1.keep k) (a2.keep k) (a3.keep k), hb]
    rfl
  simp [mk3, mMake, mNil, mCons, mVar, h1, h2, h3, Res.bind, gp_System___init___kframes_slots_strict, e]
theorem mk3_ok {σ : Sl} {st : Sto} {x1 x2 x3 : PV} (h1 : σ[1]? = some (some x1)) (h2 : σ[2]? = some (some x2)) (h3 : σ[3]? = some (some x3)) (a1 : Arg st x1) (a2 : Arg st x2) (a3 : Arg st x3) (hb : badL x1 x2 x3 = []) :
    ∃ E st', mk3 σ st = .ok (.ref st.nx) st' ∧ st'.get st.nx = some (.ins 6 (sysG E x1 x2 x3)) ∧ st'.get E.sp = some (.dct [] false) ∧ ∀ n, But n st st' := by
  have k : Keep st (st.add (.ins 6 [])) := Keep.add
  refine sys_newG (by simp [gk3, mCons, mNil, mVar, h1, h2, h3, Res.bind]) fun R => ?_
  rw [ini3_at _ rfl rfl rfl (a1.keep k) (a2.keep k) (a3.keep k), hb]
theorem eq_nil {st : Sto} {a b : Nat} (ha : st.get a = some (.lst [])) (hb : st.get b = some (.lst [])) : eqN st (eqP st 60) (.ref a) (.ref b) = some true := by
  simp [eqN, seqOf, lstOf, ha, hb, allEq]
theorem ne_nil {st : Sto} {a b : Nat} {x : PV} {r : List PV} (ha : st.get a = some (.lst (x :: r))) (hb : st.get b = some (.lst [])) : eqN st (eqP st 60) (.ref a) (.ref b) = some false := by
  simp [eqN, seqOf, lstOf, ha, hb]
theorem srG (E : SE) (x1 x2 x3 : PV) : (sysG E x1 x2 x3).lookup ("spaces" : Str) = some (.ref E.sp) := by rfl
theorem srG2 (E : SE) (x1 x2 x3 : PV) : (sysG E x1 x2 x3).lookup ("step" : Str) = some (.int 0) := by rfl
theorem processes_nil {st : Sto} {s sp : Nat} {fs : List (Str × PV)} (h : st.get s = some (.ins 6 fs)) (hf : fs.lookup ("spaces" : Str) = some (.ref sp)) (hd : st.get sp = some (.dct [] false)) : p_processes [.ref s] st = .ok (.ref st.nx) (st.add (.lst [])) := by
  have e : gOr (gNewL srtL) (gNewL srtD) [.ref sp] st = some (.ref st.nx, st.add (.lst [])) := by
    simp [gOr, gNewL, srtL, srtD, lstOf, keysD, hd, intsOf, sortI_nil]
  unfold p_processes runB b_processes sRet
  simp [mB, mCons, mNil, Res.bind, fld_get (n := s) (v := .ref sp) (σ := slots 1 [.ref s]) (i := 0) rfl h hf, e, Res.toS, outV]
theorem now_G {st : Sto} {s : Nat} {fs : List (Str × PV)} (h : st.get s = some (.ins 6 fs)) (hf : fs.lookup ("step" : Str) = some (.int 0)) : p_now [.ref s] st = .ok (.int 0) st := by
  unfold p_now runB b_now sRet
  rw [fld_get (n := s) (v := .int 0) rfl h hf]
  rfl
theorem bsr2_bad {σ : Sl} {st : Sto} {L : Nat} {a : Str} {r : List PV} (h4 : σ[4]? = some (some (.ref L))) (h5 : σ[5]? = some (some (.tup [.str "system", .str a]))) (hL : st.get L = some (.lst (.str a :: r))) :
    bsr2 σ st = .rt (.bl true) (st.add (.lst [])) := by
  have g1 : (st.add (.lst [])).get L = some (.lst (.str a :: r)) := get_add_old hL
  have g2 : (st.add (.lst [])).get st.nx = some (.lst []) := get_add_new
  have ne := ne_nil g1 g2
  have e2 : oEq (.tup [.str "system", .str a]) (.tup [.str "system", .str a]) (st.add (.lst [])) = .ok (.bl true) (st.add (.lst [])) := by
    simp [oEq, eqN, seqOf, allEq, eqP_str]
  unfold bsr2
  refine sSeq_rt ?_
  simp [sIf, mTru, mOp, mVar, h4, h5, mLst, mNil, mCons, mC, Res.bind, sz, mkNew, oNe, ne, truP, Res.toS, sRet, mTup, mIx, g1, ixP, atI, ixN, e2]
theorem bsr2_ok {σ : Sl} {st : Sto} {L s sp : Nat} {fs : List (Str × PV)} (h4 : σ[4]? = some (some (.ref L))) (h5 : σ[5]? = some (some (.ref s))) (hL : st.get L = some (.lst [])) (hs : st.get s = some (.ins 6 fs)) (hf : fs.lookup ("spaces" : Str) = some (.ref sp)) (hf2 : fs.lookup ("step" : Str) = some (.int 0)) (hd : st.get sp = some (.dct [] false)) :
    ∃ st', bsr2 σ st = .rt (.bl true) st' ∧ Keep st st' := by
  have g1 : (st.add (.lst [])).get L = some (.lst []) := get_add_old hL
  have g2 : (st.add (.lst [])).get st.nx = some (.lst []) := get_add_new
  have ne := eq_nil g1 g2
  have k1 : Keep st (st.add (.lst [])) := Keep.add
  have k2 : Keep (st.add (.lst [])) ((st.add (.lst [])).add (.lst [])) := Keep.add
  have k3 : Keep ((st.add (.lst [])).add (.lst [])) (((st.add (.lst [])).add (.lst [])).add (.lst [])) := Keep.add
  have e1 := processes_nil (k1.get hs) hf (k1.get hd)
  have e2 := now_G (((k1.trans k2).trans k3).get hs) hf2
  have g3 := k3.get (get_add_new (st := st.add (.lst [])) (o' := .lst []))
  have g4 := get_add_new (st := (st.add (.lst [])).add (.lst [])) (o' := .lst [])
  have eq2 := eq_nil g3 g4
  refine ⟨((st.add (.lst [])).add (.lst [])).add (.lst []), ?_, (k1.trans k2).trans k3⟩
  unfold bsr2
  rw [sSeq_nx (σ1 := σ) (st1 := st.add (.lst [])) (by
    simp [sIf, mTru, mOp, mVar, h4, mLst, mNil, Res.bind, sz, mkNew, oNe, ne, truP, Res.toS, sSkip])]
  have e3 : oEq (.int 0) (.int 0) (((st.add (.lst [])).add (.lst [])).add (.lst [])) = .ok (.bl true) (((st.add (.lst [])).add (.lst [])).add (.lst [])) := rfl
  simp [sRet, mAnd, mOp, mCall, gp_processes, gp_now, mCons, mNil, mVar, mC, h5, Res.bind, e1, mLst, sz, mkNew, oEq, eq2, truP, e2, Res.toS]
  simp [oEq] at e3
  simp [e3]
theorem system_right {st : Sto} {w : Nat} {m : Int} (W : Well st w m) (hm : m < 10000000000) : ∃ st', p__law_system_right [.ref w] st = .ok (.bl true) st' ∧ Well st' w (m + 5) ∧ But w st st' := by
  obtain ⟨x1, s1, e1, a1, n1, W1, b1⟩ := choice1 (σ := [some (.ref w), none, none, none, none, none]) rfl W (by omega)
  obtain ⟨x2, s2, e2, a2, n2, W2, b2⟩ := choice2 (σ := [some (.ref w), some x1, none, none, none, none]) rfl W1 (by omega)
  obtain ⟨x3, s3, e3, a3, n3, W3, b3⟩ := choice3 (σ := [some (.ref w), some x1, some x2, none, none, none]) rfl W2 (by omega)
  have A1 := (a1.but b2 n1).but b3 n1
  have A2 := a2.but b3 n2
  have k4 : Keep s3 (s3.add (.lst [])) := Keep.add
  have hL : (s3.add (.lst [])).get s3.nx = some (.lst []) := get_add_new
  obtain ⟨s5, e5, g5, b5⟩ := addif (σ := [some (.ref w), some x1, some x2, some x3, some (.ref s3.nx), none]) (w := "frames") (tst1L_at (lo := 1) (hi := 64) (A1.keep k4) (i := 1) rfl) rfl hL (by simp)
  have k5 := keep_but k4 b5 (Nat.le_refl _)
  obtain ⟨s6, e6, g6, b6⟩ := addif (σ := [some (.ref w), some x1, some x2, some x3, some (.ref s3.nx), none]) (w := "slots") (tst1L_at (lo := 0) (hi := 256) (A2.keep k5) (i := 2) rfl) rfl g5 (by split <;> simp)
  have k6 := keep_but k5 b6 (Nat.le_refl _)
  obtain ⟨s7, e7, g7, b7⟩ := addif (σ := [some (.ref w), some x1, some x2, some x3, some (.ref s3.nx), none]) (w := "strict") (tst3_at (a3.keep k6) (σ := [some (.ref w), some x1, some x2, some x3, some (.ref s3.nx), none]) rfl rfl rfl) rfl g6 (by split <;> split <;> simp)
  have k7 := keep_but k6 b7 (Nat.le_refl _)
  have g7 : s7.get s3.nx = some (.lst (badL x1 x2 x3)) := by rw [g7]; rfl
  have X1 := A1.keep k7
  have X2 := A2.keep k7
  have X3 := a3.keep k7
  have b13 := (b1.trans b2).trans b3
  have pre : p__law_system_right [.ref w] st = outV (sSeq (sSet 5 (mLam (subOf subT) hs__law_said N__law_said.length mk3)) bsr2 [some (.ref w), some x1, some x2, some x3, some (.ref s3.nx), none] s7) := by
    show outV (b__law_system_right [some (.ref w), none, none, none, none, none] st) = _
    rw [bsr_eq]
    unfold bsr
    rw [sSeq_nx (σ1 := [some (.ref w), some x1, none, none, none, none]) (sSet_nx e1)]
    rw [sSeq_nx (σ1 := [some (.ref w), some x1, some x2, none, none, none]) (sSet_nx e2)]
    rw [sSeq_nx (σ1 := [some (.ref w), some x1, some x2, some x3, none, none]) (sSet_nx e3)]
    rw [sSeq_nx (σ1 := [some (.ref w), some x1, some x2, some x3, some (.ref s3.nx), none]) (sSet_nx (st1 := s3.add (.lst [])) (v := .ref s3.nx) (by rfl))]
    rw [sSeq_nx e5, sSeq_nx e6, sSeq_nx e7]
  cases hb : badL x1 x2 x3 with
  | nil =>
    rw [hb] at g7
    obtain ⟨E, s8, e8, c1, c2, b8⟩ := mk3_ok (σ := [some (.ref w), some x1, some x2, some x3, some (.ref s3.nx), none]) rfl rfl rfl X1 X2 X3 hb
    have k8 : Keep s7 s8 := ⟨(b8 0).nx, fun m h => (b8 s7.nx).eq m h (by omega)⟩
    obtain ⟨s9, e9, k9⟩ := bsr2_ok (σ := [some (.ref w), some x1, some x2, some x3, some (.ref s3.nx), some (.ref s7.nx)]) (L := s3.nx) (s := s7.nx) (st := s8) rfl rfl (k8.get g7) c1 (srG _ _ _ _) (srG2 _ _ _ _) c2
    have kk := (k7.trans k8).trans k9
    refine ⟨s9, ?_, (W3.keep kk).le (by omega), b13.trans kk.but⟩
    rw [pre, sSeq_nx (sSet_nx (said_ok e8))]
    show outV (bsr2 [some (.ref w), some x1, some x2, some x3, some (.ref s3.nx), some (.ref s7.nx)] s8) = _
    rw [e9]
    rfl
  | cons a r =>
    rw [hb] at g7
    obtain ⟨t, rfl⟩ := badL_str x1 x2 x3 a (by rw [hb]; exact List.mem_cons_self)
    have e8 := mk3_bad (σ := [some (.ref w), some x1, some x2, some x3, some (.ref s3.nx), none]) rfl rfl rfl X1 X2 X3 hb
    have k8 : Keep s7 (s7.add (.ins 6 [])) := Keep.add
    have e9 := bsr2_bad (σ := [some (.ref w), some x1, some x2, some x3, some (.ref s3.nx), some (.tup [.str "system", .str t])]) (L := s3.nx) rfl rfl (k8.get g7)
    have kk := (k7.trans k8).trans (Keep.add (o := .lst []))
    refine ⟨_, ?_, (W3.keep kk).le (by omega), b13.trans kk.but⟩
    rw [pre, sSeq_nx (sSet_nx (said_sys e8))]
    show outV (bsr2 [some (.ref w), some x1, some x2, some x3, some (.ref s3.nx), some (.tup [.str "system", .str t])] _) = _
    rw [e9]
    rfl
end LW
set_option linter.all false
set_option maxRecDepth 100000
set_option maxHeartbeats 8000000
namespace LW
open MP PySem L2
theorem forGo_idx {gd : Gd} {g : MG} {b : MS} (P : Nat → Sl → Sto → Prop) (hc : ∀ k σ st, P k σ st → chk gd st = true) : ∀ (xs : List PV) (k : Nat), (∀ j x, xs[j]? = some x → ∀ σ st, P (k + j) σ st → ∃ σ2 σ3 st3, g x σ = some σ2 ∧ b σ2 st = .nx σ3 st3 ∧ P (k + j + 1) σ3 st3) →
    ∀ (σ : Sl) (st : Sto), P k σ st → ∃ σ' st', forGo gd g b xs σ st = .nx σ' st' ∧ P (k + xs.length) σ' st'
  | [], k, _, σ, st, h => ⟨σ, st, by unfold forGo; rw [if_pos (hc k σ st h)], h⟩
  | x :: xs, k, hs, σ, st, h => by
    obtain ⟨σ2, σ3, st3, e1, e2, h3⟩ := hs 0 x rfl σ st h
    obtain ⟨σ', st', e, h'⟩ := forGo_idx P hc xs (k + 1) (fun j y hy σ st q => by
      obtain ⟨s2, s3, t3, q1, q2, q3⟩ := hs (j + 1) y (by simpa using hy) σ st (by rw [show k + (j + 1) = k + 1 + j by omega]; exact q)
      exact ⟨s2, s3, t3, q1, q2, by rw [show k + 1 + j + 1 = k + (j + 1) + 1 by omega]; exact q3⟩) σ3 st3 h3
    refine ⟨σ', st', ?_, by rw [List.length_cons, show k + (xs.length + 1) = k + 1 + xs.length by omega]; exact h'⟩
    unfold forGo
    rw [if_pos (hc k σ st h), e1]
    show (b σ2 st).loop _ = _
    rw [e2]
    exact e
/-- two ids with different things are different -/
theorem ne_get {st : Sto} {m n : Nat} {o o' : PO} (h : st.get m = some o) (h' : st.get n = some o') (ne : o ≠ o') : m ≠ n := fun q => by
  rw [q, h'] at h
  cases h
  exact ne rfl
/-- nothing of the system stands at m -/
theorem Sys.step_ {st st' : Sto} {E : SE} {s : Nat} {step last : Int} {al : List (Int × Nat)} (S : Sys st E s step last al) {m : Nat} (b : But m st st') {xs : List PV} (hm : st.get m = some (.lst xs)) (hr : m ≠ E.rw_) : Sys st' E s step last al := by
  have old : ∀ n o, n ≠ m → st.get n = some o → st'.get n = some o := fun n o h k => (b.eq n (Sto.lt_nx k) h).trans k
  exact ⟨old _ _ (ne_get S.a hm (fun z => nomatch z)) S.a, old _ _ (ne_get S.b hm (fun z => nomatch z)) S.b, old _ _ (ne_get S.c hm (fun z => nomatch z)) S.c, old _ _ (ne_get S.d hm (fun z => nomatch z)) S.d, old _ _ (Ne.symm hr) S.e, S.ne, S.pw, S.le,
    fun p hp => let ⟨x1, x2, x3⟩ := S.em p hp; ⟨old _ _ (ne_get x1 hm (fun z => nomatch z)) x1, x2, x3⟩⟩
structure Inv1 (st0 : Sto) (E : SE) (w s A : Nat) (step last m : Int) (al : List (Int × Nat)) (st : Sto) : Prop where
  S : Sys st E s step last al
  W : Well st w m
  al_ : st.get A = some (.lst (ids al))
  len : al.length ≤ 12
  l0 : 0 ≤ last
  ar : A ≠ E.rw_
  aw : A ≠ w
  lw : st0.nx ≤ w
  ls : st0.nx ≤ s
  la : st0.nx ≤ A
  lp : st0.nx ≤ E.sp
  k : Keep st0 st
section
variable {st0 st st' : Sto} {E : SE} {w s A : Nat} {step last m : Int} {al : List (Int × Nat)}
theorem Well.lst (W : Well st w m) : ∃ xs, st.get w = some (.lst xs) ∧ xs ≠ [] := by
  obtain ⟨a, b, c, h, _⟩ := W
  exact ⟨_, h, by simp⟩
theorem Inv1.hs (I : Inv1 st0 E w s A step last m al st) : s ≠ E.sp := ne_get I.S.a I.S.b (fun z => nomatch z)
theorem Inv1.wr (I : Inv1 st0 E w s A step last m al st) : w ≠ E.rw_ := by
  obtain ⟨xs, h, ne⟩ := I.W.lst
  exact ne_get h I.S.e (fun z => by cases z; exact ne rfl)
theorem Inv1.ws (I : Inv1 st0 E w s A step last m al st) : w ≠ s ∧ w ≠ E.sp := by
  obtain ⟨xs, h, ne⟩ := I.W.lst
  exact ⟨ne_get h I.S.a (fun z => nomatch z), ne_get h I.S.b (fun z => nomatch z)⟩
theorem Inv1.as (I : Inv1 st0 E w s A step last m al st) : A ≠ s ∧ A ≠ E.sp := ⟨ne_get I.al_ I.S.a (fun z => nomatch z), ne_get I.al_ I.S.b (fun z => nomatch z)⟩
theorem Inv1.keep (I : Inv1 st0 E w s A step last m al st) (k : Keep st st') : Inv1 st0 E w s A step last m al st' :=
  ⟨I.S.keep k, I.W.keep k, k.get I.al_, I.len, I.l0, I.ar, I.aw, I.lw, I.ls, I.la, I.lp, I.k.trans k⟩
theorem Inv1.well (I : Inv1 st0 E w s A step last m al st) (b : But w st st') {m' : Int} (W : Well st' w m') : Inv1 st0 E w s A step last m' al st' := by
  obtain ⟨xs, h, ne⟩ := I.W.lst
  exact ⟨I.S.step_ b h I.wr, W, (b.eq A (Sto.lt_nx I.al_) I.aw).trans I.al_, I.len, I.l0, I.ar, I.aw, I.lw, I.ls, I.la, I.lp, keep_but I.k b I.lw⟩
/-- the list of the living ones is set -/
theorem Inv1.app (I : Inv1 st0 E w s A step last m al st) {step' last' : Int} {al' : List (Int × Nat)} (S : Sys st' E s step' last' al') (n : st.nx ≤ st'.nx) (o : ∀ m, m < st.nx → m ≠ s → m ≠ E.sp → st'.get m = st.get m) (hl : al'.length ≤ 12) (h0 : 0 ≤ last') :
    st'.get A = some (.lst (ids al)) ∧ Inv1 st0 E w s A step' last' m al' (st'.set A (.lst (ids al'))) := by
  have e : st'.get A = some (.lst (ids al)) := (o A (Sto.lt_nx I.al_) I.as.1 I.as.2).trans I.al_
  obtain ⟨a, b, c, g, hr⟩ := I.W
  have gw : st'.get w = _ := (o w (Sto.lt_nx g) I.ws.1 I.ws.2).trans g
  refine ⟨e, S.step_ But.set e I.ar, ⟨a, b, c, by rw [Sto.get_set, if_neg (Ne.symm I.aw)]; exact gw, hr⟩, get_set_same e, hl, h0, I.ar, I.aw, I.lw, I.ls, I.la, I.lp, ⟨by rw [Sto.nx_set]; exact Nat.le_trans I.k.nx n, fun q hq => ?_⟩⟩
  have := I.k.nx
  have := I.la
  have := I.ls
  have := I.lp
  rw [Sto.get_set, if_neg (by omega), o q (by omega) (by omega) (by omega)]
  exact I.k.eq q hq
end
theorem ids_len (al : List (Int × Nat)) : (ids al).length = al.length := by simp [ids]
theorem allEq_ids {st : Sto} {n : Nat} : ∀ al : List (Int × Nat), allEq (eqP st (n + 1)) (ids al) (ids al) = some true
  | [] => rfl
  | p :: r => by
    have := allEq_ids (st := st) (n := n) r
    have e : eqP st (n + 1) (.int p.1) (.int p.1) = some true := by simp [eqP, oneRef, eqN, seqOf, lstOf, eqS, vOf, eqV]
    show allEq _ (.int p.1 :: ids r) (.int p.1 :: ids r) = _
    simp [allEq, e, this]
theorem eq_ids {st : Sto} {a b : Nat} {al : List (Int × Nat)} (ha : st.get a = some (.lst (ids al))) (hb : st.get b = some (.lst (ids al))) : eqN st (eqP st 60) (.ref a) (.ref b) = some true := by
  simp [eqN, seqOf, lstOf, ha, hb, allEq_ids]
theorem eq_ids_nil {st : Sto} {a b : Nat} {al : List (Int × Nat)} (ha : st.get a = some (.lst (ids al))) (hb : st.get b = some (.lst [])) : eqN st (eqP st 60) (.ref a) (.ref b) = some al.isEmpty := by
  cases al with
  | nil => exact eq_nil ha hb
  | cons p r => exact ne_nil ha hb
end LW
set_option linter.all false
set_option maxRecDepth 100000
set_option maxHeartbeats 8000000
namespace LW
open MP PySem L2
abbrev sg (c x1 : Option PV) (w s A : Nat) (last : Int) (v3 v7 v8 v9 v10 v11 : Option PV) : Sl := [c, x1, some (.ref w), v3, some (.ref s), some (.ref A), some (.int last), v7, v8, v9, v10, v11]
def mTold : ME := (mIf (mOrT (mTru (mOp oEq (mVar 5) (mLst mNil))) (mTru (mOp oEq (mVar 8) (mC (.int 0))))) (mCall p_spawn gp_spawn (mCons (mVar 4) mNil)) (mCall p_fork gp_fork (mCons (mVar 4) (mCons (mCall p__law_one gp__law_one (mCons (mVar 2) (mCons (mVar 5) mNil))) mNil))))
def sApp : MS := sExpr (mBM tpL gAppend (mVar 5) (mCons (mVar 6) mNil))
def bTurn : MS := (sIf (mAndT (mTru (mOp oLt (mVar 8) (mC (.int 2)))) (mTru (mOp oLt (mB gLen (mCons (mVar 5) mNil)) (mC (.int 12)))))
    (sSeq (sSet 6 (mOp oAdd (mVar 6) (mC (.int 1))))
    (sSeq (sSet 9 mTold)
    (sSeq sApp
    (sIf (mTru (mOp oNe (mVar 9) (mVar 6)))
    (sRet (mC (.bl false)))
    sSkip))))
    (sIf (mTru (mOp oNe (mVar 5) (mLst mNil)))
    (sSeq (sSet 10 (mBM tpL gPopAt (mVar 5) (mCons (mCall p__law_draw gp__law_draw (mCons (mVar 2) (mCons (mB gLen (mCons (mVar 5) mNil)) mNil))) mNil)))
    (sExpr (mCall p_leave gp_leave (mCons (mVar 4) (mCons (mVar 10) mNil)))))
    (sSeq (sExpr (mCall p_spawn gp_spawn (mCons (mVar 4) mNil)))
    (sSeq (sSet 6 (mOp oAdd (mVar 6) (mC (.int 1))))
    sApp))))
section
variable {st0 st st' : Sto} {E : SE} {w s A : Nat} {step last m : Int} {al : List (Int × Nat)} {c x1 v3 v7 v9 v10 v11 : Option PV} {d : Int}
theorem eq_int (i j : Int) (st : Sto) : eqN st (eqP st 60) (.int i) (.int j) = some (i == j) := by
  simp [eqN, seqOf, lstOf, eqS, vOf, eqV]
theorem told_at (I : Inv1 st0 E w s A step last m al st) (hm : m < 10000000000) (hl : al.length < 12) :
    ∃ st1 st' d', mTold (sg c x1 w s A (last + 1) v3 v7 (some (.int d)) v9 v10 v11) st = .ok (.int (last + 1)) st' ∧ Inv1 st0 E w s A step last (m + 1) al st1 ∧ Sys st' E s (step + 1) (last + 1) (al ++ [(last + 1, d')]) ∧ st1.nx ≤ st'.nx ∧ ∀ m, m < st1.nx → m ≠ s → m ≠ E.sp → st'.get m = st1.get m := by
  have k0 : Keep st (st.add (.lst [])) := Keep.add
  have I0 := I.keep k0
  have e0 := eq_ids_nil I0.al_ (get_add_new (st := st) (o' := .lst []))
  have tst : (mOrT (mTru (mOp oEq (mVar 5) (mLst mNil))) (mTru (mOp oEq (mVar 8) (mC (.int 0))))) (sg c x1 w s A (last + 1) v3 v7 (some (.int d)) v9 v10 v11) st = .ok (al.isEmpty || d == 0) (st.add (.lst [])) := by
    simp [mOrT, mTru, mOp, mVar, mLst, mNil, mC, Res.bind, sz, mkNew, oEq, e0, truP, eq_int]
    cases al with
    | nil => simp
    | cons _ _ => simp
  cases hc : (al.isEmpty || d == 0) with
  | true =>
    obtain ⟨s2, e2, S2, n2, o2⟩ := spawn_at I0.S I0.hs (by omega) I0.l0
    refine ⟨st.add (.lst []), s2, st.nx + 1, ?_, ⟨I0.S, I0.W.le (by omega), I0.al_, I0.len, I0.l0, I0.ar, I0.aw, I0.lw, I0.ls, I0.la, I0.lp, I0.k⟩, by rw [Sto.nx_add] at S2; exact S2, n2, o2⟩
    unfold mTold mIf
    rw [tst, hc]
    simp [Res.bind, mCall, gp_spawn, mCons, mNil, mVar, e2]
  | false =>
    have ne : 0 < al.length := by
      cases al with
      | nil => simp at hc
      | cons _ _ => simp
    obtain ⟨j, x, s1, ej, e1, W1, b1⟩ := one I0.W (by omega) I0.al_ I0.aw (by rw [ids_len]; exact ne) (by rw [ids_len]; omega)
    have I1 := I0.well b1 W1
    obtain ⟨p, hp, rfl⟩ : ∃ p : Int × Nat, al[j]? = some p ∧ x = .int p.1 := by
      unfold ids at ej
      rw [List.getElem?_map] at ej
      obtain ⟨p, hp, q⟩ := Option.map_eq_some_iff.mp ej
      exact ⟨p, hp, q.symm⟩
    obtain ⟨d', s2, e2, S2, n2, o2⟩ := fork_at I1.S I1.hs (by omega) I1.l0 (i := p.1) (d := p.2) (List.mem_of_getElem? hp)
    refine ⟨s1, s2, d', ?_, I1, S2, n2, o2⟩
    unfold mTold mIf
    rw [tst, hc]
    simp [Res.bind, mCall, gp_fork, gp__law_one, mCons, mNil, mVar, e1, e2]
theorem app_at {σ : Sl} {st : Sto} {A : Nat} {al : List (Int × Nat)} {i : Int} {d : Nat} (h5 : σ[5]? = some (some (.ref A))) (h6 : σ[6]? = some (some (.int i))) (hA : st.get A = some (.lst (ids al))) (hl : al.length < 1000) : sApp σ st = .nx σ (st.set A (.lst (ids (al ++ [(i, d)])))) := by
  have len : (ids al).length + 1 ≤ 16777216 := by rw [ids_len]; omega
  have e : ids (al ++ [(i, d)]) = ids al ++ [.int i] := by simp [ids]
  unfold sApp
  rw [e]
  simp [sExpr, mBM, mVar, h5, h6, Res.bind, tpL, hA, mCons, mNil, gAppend, ownL, sz, len, Res.toS]
end
end LW
set_option linter.all false
set_option maxRecDepth 100000
set_option maxHeartbeats 8000000
namespace LW
open MP PySem L2
theorem ids_erase : ∀ (al : List (Int × Nat)) (j : Nat), (ids al).eraseIdx j = ids (al.eraseIdx j)
  | [], _ => rfl
  | _ :: _, 0 => rfl
  | p :: r, j + 1 => by
    have := ids_erase r j
    show PV.int p.1 :: (ids r).eraseIdx j = PV.int p.1 :: ids (r.eraseIdx j)
    rw [this]
theorem sIf_tt {t : MT} {f g : MS} {σ : Sl} {st st1 : Sto} (h : t σ st = .ok true st1) : sIf t f g σ st = f σ st1 := by unfold sIf; rw [h]; rfl
theorem sIf_ff {t : MT} {f g : MS} {σ : Sl} {st st1 : Sto} (h : t σ st = .ok false st1) : sIf t f g σ st = g σ st1 := by unfold sIf; rw [h]; rfl
section
variable {st0 st st' : Sto} {E : SE} {w s A : Nat} {step last m : Int} {al : List (Int × Nat)} {c x1 v3 v7 v9 v10 v11 : Option PV} {d : Int}
theorem turn_at (I : Inv1 st0 E w s A step last m al st) (hm : m < 10000000000) :
    ∃ last' al' v9' v10' st', bTurn (sg c x1 w s A last v3 v7 (some (.int d)) v9 v10 v11) st = .nx (sg c x1 w s A last' v3 v7 (some (.int d)) v9' v10' v11) st' ∧ Inv1 st0 E w s A (step + 1) last' (m + 1) al' st' := by
  have tst : (mAndT (mTru (mOp oLt (mVar 8) (mC (.int 2)))) (mTru (mOp oLt (mB gLen (mCons (mVar 5) mNil)) (mC (.int 12))))) (sg c x1 w s A last v3 v7 (some (.int d)) v9 v10 v11) st = .ok (decide (d < 2) && decide (al.length < 12)) st := by
    by_cases q : d < 2
    · simp [mAndT, mTru, mOp, mVar, mC, Res.bind, oLt, opII, truP, q, mB, mCons, mNil, gLen, lenP, I.al_, ids_len]
      omega
    · simp [mAndT, mTru, mOp, mVar, mC, Res.bind, oLt, opII, truP, q]
  unfold bTurn
  cases hc : (decide (d < 2) && decide (al.length < 12)) with
  | true =>
    rw [hc] at tst
    have hl : al.length < 12 := by simp at hc; exact hc.2
    obtain ⟨s1, s2, d', e2, I1, S2, n2, o2⟩ := told_at (c := c) (x1 := x1) (v3 := v3) (v7 := v7) (v9 := v9) (v10 := v10) (v11 := v11) (d := d) I hm hl
    obtain ⟨gA, I3⟩ := I1.app S2 n2 o2 (by rw [List.length_append]; show al.length + 1 ≤ 12; omega) (by have := I.l0; omega)
    refine ⟨last + 1, al ++ [(last + 1, d')], some (.int (last + 1)), v10, _, ?_, I3⟩
    rw [sIf_t tst]
    rw [sSeq_nx (σ1 := sg c x1 w s A (last + 1) v3 v7 (some (.int d)) v9 v10 v11) (sSet_nx (st1 := st) (v := .int (last + 1)) (by rfl))]
    rw [sSeq_nx (σ1 := sg c x1 w s A (last + 1) v3 v7 (some (.int d)) (some (.int (last + 1))) v10 v11) (sSet_nx e2)]
    rw [sSeq_nx (app_at (i := last + 1) (d := d') rfl rfl gA (by omega))]
    rw [sIf_f (by simp [mTru, mOp, mVar, Res.bind, oNe, eq_int, truP])]
    rfl
  | false =>
    rw [hc] at tst
    rw [sIf_f tst]
    have k0 : Keep st (st.add (.lst [])) := Keep.add
    have I0 := I.keep k0
    have e0 := eq_ids_nil I0.al_ (get_add_new (st := st) (o' := .lst []))
    have t2 : (mTru (mOp oNe (mVar 5) (mLst mNil))) (sg c x1 w s A last v3 v7 (some (.int d)) v9 v10 v11) st = .ok (!al.isEmpty) (st.add (.lst [])) := by
      simp [mTru, mOp, mVar, mLst, mNil, Res.bind, sz, mkNew, oNe, e0, truP]
    cases hal : al.isEmpty with
    | true =>
      rw [hal] at t2
      obtain ⟨s2, e2, S2, n2, o2⟩ := spawn_at I0.S I0.hs (by have := I.len; omega) I0.l0
      obtain ⟨gA, I3⟩ := I0.app S2 n2 o2 (by
        cases al with
        | nil => simp
        | cons _ _ => simp at hal) (by have := I.l0; omega)
      refine ⟨last + 1, _, v9, v10, _, ?_, ⟨I3.S, I3.W.le (by omega), I3.al_, I3.len, I3.l0, I3.ar, I3.aw, I3.lw, I3.ls, I3.la, I3.lp, I3.k⟩⟩
      rw [sIf_ff t2]
      rw [sSeq_nx (σ1 := sg c x1 w s A last v3 v7 (some (.int d)) v9 v10 v11) (st1 := s2) (by simp [sExpr, mCall, gp_spawn, mCons, mNil, mVar, Res.bind, e2, Res.toS])]
      rw [sSeq_nx (σ1 := sg c x1 w s A (last + 1) v3 v7 (some (.int d)) v9 v10 v11) (sSet_nx (st1 := s2) (v := .int (last + 1)) (by rfl))]
      exact app_at rfl rfl gA (by have := I.len; omega)
    | false =>
      rw [hal] at t2
      have ne : 0 < al.length := by
        cases al with
        | nil => simp at hal
        | cons _ _ => simp
      have len := I.len
      obtain ⟨z, s1, e1, z0, z1, W1, b1⟩ := draw (many := (al.length : Int)) I0.W (by omega) (by omega) (by omega)
      have I1 := I0.well b1 W1
      obtain ⟨j, rfl⟩ : ∃ j : Nat, z = (j : Int) := ⟨z.toNat, by omega⟩
      have hj : j < al.length := by omega
      have ej : al[j]? = some al[j] := List.getElem?_eq_getElem hj
      have S2 := I1.S.step_ (But.set (o := .lst (ids (al.eraseIdx j)))) I1.al_ I1.ar
      obtain ⟨s3, e3, S3, n3, o3⟩ := leave_at S2 I1.hs (by omega) (i := (al[j]).1) (d := (al[j]).2) ej
      have gA : s3.get A = some (.lst (ids (al.eraseIdx j))) := (o3 A (by rw [Sto.nx_set]; exact Sto.lt_nx I1.al_) I1.as.1 I1.as.2).trans (get_set_same I1.al_)
      obtain ⟨a_, b_, c_, gw, hr⟩ := I1.W
      have gw3 : s3.get w = _ := (o3 w (by rw [Sto.nx_set]; exact Sto.lt_nx gw) I1.ws.1 I1.ws.2).trans ((by rw [Sto.get_set, if_neg (Ne.symm I1.aw)] : (s1.set A (.lst (ids (al.eraseIdx j)))).get w = s1.get w).trans gw)
      have kk : Keep st0 s3 := by
        have q1 := I1.k.nx
        have q2 := I1.la
        have q3 := I1.ls
        have q4 := I1.lp
        rw [Sto.nx_set] at n3
        refine ⟨by omega, fun q hq => ?_⟩
        rw [o3 q (by rw [Sto.nx_set]; omega) (by omega) (by omega), Sto.get_set, if_neg (by omega)]
        exact I1.k.eq q hq
      have lj : (al.eraseIdx j).length ≤ al.length := (List.eraseIdx_sublist al j).length_le
      refine ⟨last, al.eraseIdx j, v9, some (.int (al[j]).1), s3, ?_, ⟨S3, ⟨a_, b_, c_, gw3, hr⟩, gA, by omega, I1.l0, I1.ar, I1.aw, I1.lw, I1.ls, I1.la, I1.lp, kk⟩⟩
      have hij : (ids al)[j]? = some (.int (al[j]).1) := by
        unfold ids
        rw [List.getElem?_map, ej]
        rfl
      have sz1 : sz (ids al).length = true := by rw [ids_len]; unfold sz; simp; omega
      have ix : ixN (ids al).length (j : Int) = some j := by
        rw [ids_len]
        unfold ixN
        simp [hj]
      rw [sIf_tt t2]
      rw [sSeq_nx (σ1 := sg c x1 w s A last v3 v7 (some (.int d)) v9 (some (.int (al[j]).1)) v11) (sSet_nx (st1 := s1.set A (.lst (ids (al.eraseIdx j)))) (v := .int (al[j]).1) (by
        simp only [mBM, mVar, List.getElem?_cons_zero, List.getElem?_cons_succ, Res.bind, tpL, I0.al_, if_true, mCons, mNil, mCall, gp__law_draw, mB, gLen, lenP, ids_len, e1, gPopAt, ownL, I1.al_]
        rw [← ids_len] 
        simp only [ix, hij, sz1, ids_erase, if_true]))]
      simp [sExpr, mCall, gp_leave, mCons, mNil, mVar, Res.bind, e3, Res.toS]
theorem chk_at (I : Inv1 st0 E w s A step last m al st) {σ : Sl} {k : Int} (h4 : σ[4]? = some (some (.ref s))) (h5 : σ[5]? = some (some (.ref A))) (h7 : σ[7]? = some (some (.int k))) (hk : k + 1 = step) : ∃ st', (sIf (mOrT (mTru (mOp oNe (mCall p_processes gp_processes (mCons (mVar 4) mNil)) (mVar 5))) (mTru (mOp oNe (mCall p_now gp_now (mCons (mVar 4) mNil)) (mOp oAdd (mVar 7) (mC (.int 1))))))
    (sRet (mC (.bl false)))
    sSkip) σ st = .nx σ st' ∧ Keep st st' := by
  have k0 : Keep st (st.add (.lst (ids al))) := Keep.add
  have I0 := I.keep k0
  have len := I.len
  have e1 := processes_at I.S (by omega)
  have e2 := eq_ids (get_add_new (st := st) (o' := .lst (ids al))) I0.al_
  have e3 := p_now_at I0.S
  refine ⟨st.add (.lst (ids al)), ?_, k0⟩
  subst hk
  simp [sIf, mOrT, mTru, mOp, mCall, gp_processes, gp_now, mCons, mNil, mVar, h4, h5, h7, Res.bind, e1, oNe, e2, truP, e3, mC, oAdd, eq_int, Res.toS, sSkip]
theorem clr_at (I : Inv1 st0 E w s A step last m al st) {σ : Sl} (h4 : σ[4]? = some (some (.ref s))) : ∃ st', sExpr (mBM tpL gClear (mCall p_processes gp_processes (mCons (mVar 4) mNil)) mNil) σ st = .nx σ st' ∧ Keep st st' := by
  have len := I.len
  have e1 := processes_at I.S (by omega)
  have g := get_add_new (st := st) (o' := .lst (ids al))
  refine ⟨(st.add (.lst (ids al))).set st.nx (.lst []), ?_, keep_but Keep.add But.set (Nat.le_refl _)⟩
  simp [sExpr, mBM, mCall, gp_processes, mCons, mNil, mVar, h4, Res.bind, e1, tpL, g, gClear, ownL, Res.toS]
end
end LW
set_option linter.all false
set_option maxRecDepth 100000
set_option maxHeartbeats 8000000
namespace LW
open MP PySem L2
def bChk : MS := (sIf (mOrT (mTru (mOp oNe (mCall p_processes gp_processes (mCons (mVar 4) mNil)) (mVar 5))) (mTru (mOp oNe (mCall p_now gp_now (mCons (mVar 4) mNil)) (mOp oAdd (mVar 7) (mC (.int 1))))))
    (sRet (mC (.bl false)))
    sSkip)
def bClr : MS := sExpr (mBM tpL gClear (mCall p_processes gp_processes (mCons (mVar 4) mNil)) mNil)
def kBody : MS := (sSeq (sSet 8 (mCall p__law_draw gp__law_draw (mCons (mVar 2) (mCons (mC (.int 4)) mNil)))) (sSeq bTurn (sSeq bChk bClr)))
def kFor : MS := (sFor (mwR1 (mCons (mOp oAdd (mC (.int 1)) (mCall p__law_draw gp__law_draw (mCons (mVar 2) (mCons (mC (.int 40)) mNil)))) mNil)) (gN 7) kBody)
section
variable {st0 st st' : Sto} {E : SE} {w s A : Nat} {step last m : Int} {al : List (Int × Nat)} {c x1 v3 v7 v8 v9 v10 v11 : Option PV} {d : Int}
theorem Inv1.le (I : Inv1 st0 E w s A step last m al st) {m' : Int} (h : m ≤ m') : Inv1 st0 E w s A step last m' al st := ⟨I.S, I.W.le h, I.al_, I.len, I.l0, I.ar, I.aw, I.lw, I.ls, I.la, I.lp, I.k⟩
theorem kbody_at (I : Inv1 st0 E w s A step last m al st) (hm : m < 100000000) {k : Int} (hk : k = step) :
    ∃ last' al' v8' v9' v10' st', kBody (sg c x1 w s A last v3 (some (.int k)) v8 v9 v10 v11) st = .nx (sg c x1 w s A last' v3 (some (.int k)) v8' v9' v10' v11) st' ∧ Inv1 st0 E w s A (step + 1) last' (m + 2) al' st' := by
  obtain ⟨d, s1, e1, d0, d1, W1, b1⟩ := draw (many := 4) I.W (by omega) (by omega) (by omega)
  have I1 := I.well b1 W1
  obtain ⟨last', al', v9', v10', s2, e2, I2⟩ := turn_at (c := c) (x1 := x1) (v3 := v3) (v7 := some (.int k)) (v9 := v9) (v10 := v10) (v11 := v11) (d := d) I1 (by omega)
  obtain ⟨s3, e3, k3⟩ := chk_at I2 (σ := sg c x1 w s A last' v3 (some (.int k)) (some (.int d)) v9' v10' v11) (k := k) rfl rfl rfl (by omega)
  have I3 := I2.keep k3
  obtain ⟨s4, e4, k4⟩ := clr_at I3 (σ := sg c x1 w s A last' v3 (some (.int k)) (some (.int d)) v9' v10' v11) rfl
  refine ⟨last', al', some (.int d), v9', v10', s4, ?_, (I3.keep k4).le (by omega)⟩
  unfold kBody
  rw [sSeq_nx (σ1 := sg c x1 w s A last v3 (some (.int k)) (some (.int d)) v9 v10 v11) (sSet_nx (st1 := s1) (v := .int d) (by
    simp [mCall, gp__law_draw, mCons, mNil, mVar, mC, Res.bind, e1]))]
  rw [sSeq_nx e2]
  rw [sSeq_nx (f := bChk) e3]
  exact e4
theorem kfor_at (I : Inv1 st0 E w s A 0 0 m [] st) (hm : m < 1000) :
    ∃ (n : Nat) (last' : Int) (al' : List (Int × Nat)) (v8' v9' v10' : Option PV) (st' : Sto), kFor (sg c x1 w s A 0 v3 v7 v8 v9 v10 v11) st = .nx (sg c x1 w s A last' v3 (some (.int ((n : Int) - 1))) v8' v9' v10' v11) st' ∧ Inv1 st0 E w s A (n : Int) last' (m + 100) al' st' := by
  obtain ⟨d, s1, e1, d0, d1, W1, b1⟩ := draw (many := 40) I.W (by omega) (by omega) (by omega)
  have I1 := I.well b1 W1
  obtain ⟨n, hn⟩ : ∃ n : Nat, 1 + d = (n : Int) := ⟨(1 + d).toNat, by omega⟩
  have ew : mwR1 (mCons (mOp oAdd (mC (.int 1)) (mCall p__law_draw gp__law_draw (mCons (mVar 2) (mCons (mC (.int 40)) mNil)))) mNil) (sg c x1 w s A 0 v3 v7 v8 v9 v10 v11) st = .ok (rngP 0 n, []) s1 := by
    have b : big62 (n : Int) = true := by unfold big62; simp; omega
    simp [mwR1, mCons, mNil, mOp, mC, mCall, gp__law_draw, mVar, Res.bind, e1, oAdd, hn, b]
  have rl : (rngP 0 n).length = n := by simp [rngP]
  obtain ⟨σ', st', e, h⟩ := forGo_idx (gd := []) (g := gN 7) (b := kBody) (fun k σ st => k ≤ 40 → ∃ (last : Int) (al : List (Int × Nat)) (v7 v8 v9 v10 : Option PV), σ = sg c x1 w s A last v3 v7 v8 v9 v10 v11 ∧ (0 < k → v7 = some (.int ((k : Int) - 1))) ∧ Inv1 st0 E w s A (k : Int) last (m + 1 + 2 * k) al st)
    (fun _ _ _ _ => rfl) (rngP 0 n) 0 (fun j x hx σ st P => by
      have hj : j < n := by rw [← rl]; exact (List.getElem?_eq_some_iff.mp hx).1
      have ex : x = .int (j : Int) := by
        unfold rngP at hx
        rw [List.getElem?_map, List.getElem?_range hj] at hx
        simp at hx
        exact hx.symm
      obtain ⟨last, al, v7, v8, v9, v10, rfl, h7, I⟩ := P (by omega)
      rw [Nat.zero_add] at I
      obtain ⟨last', al', v8', v9', v10', st', e, I'⟩ := kbody_at (c := c) (x1 := x1) (v3 := v3) (v8 := v8) (v9 := v9) (v10 := v10) (v11 := v11) I (by omega) (k := (j : Int)) rfl
      refine ⟨sg c x1 w s A last v3 (some (.int (j : Int))) v8 v9 v10 v11, _, st', by rw [ex]; rfl, e, fun _ => ⟨last', al', _, v8', v9', v10', rfl, fun _ => ?_, ?_⟩⟩
      · rw [Nat.zero_add, show ((j + 1 : Nat) : Int) - 1 = (j : Int) by omega]
      · rw [Nat.zero_add, show ((j + 1 : Nat) : Int) = (j : Int) + 1 by omega]
        exact I'.le (by omega)) (sg c x1 w s A 0 v3 v7 v8 v9 v10 v11) s1 (fun _ => ⟨0, [], v7, v8, v9, v10, rfl, fun h => absurd h (Nat.lt_irrefl 0), I1.le (by omega)⟩)
  rw [rl, Nat.zero_add] at h
  obtain ⟨last', al', v7', v8', v9', v10', rfl, h7, I'⟩ := h (by omega)
  rw [h7 (by omega)] at e
  refine ⟨n, last', al', v8', v9', v10', st', ?_, I'.le (by omega)⟩
  unfold kFor sFor
  rw [ew]
  exact e
end
end LW
set_option linter.all false
set_option maxRecDepth 100000
set_option maxHeartbeats 8000000
namespace LW
open MP PySem L2
/-- what is no process: the drawn odd things -/
def Odd (al : List (Int × Nat)) (st : Sto) (x : PV) : Prop := x = .tup [.int 1] ∨ (Arg st x ∧ ∀ i, x = .int i → ∀ p ∈ al, p.1 ≠ i)
theorem Odd.keep {al : List (Int × Nat)} {st st' : Sto} {x : PV} (k : Keep st st') (h : Odd al st x) : Odd al st' x := h.imp id fun ⟨a, b⟩ => ⟨a.keep k, b⟩
theorem Odd.noP {al : List (Int × Nat)} {st : Sto} {x : PV} (h : Odd al st x) : NoP al st x := by
  rcases h with rfl | ⟨a, b⟩
  · exact .inl (by rfl)
  · by_cases q : ∃ i, x = .int i
    · obtain ⟨i, rfl⟩ := q
      exact .inr ⟨i, rfl, b i rfl⟩
    · refine .inl ?_
      rw [isint_at a]
      cases x <;> first | rfl | (exact absurd ⟨_, rfl⟩ q)
theorem Odd.eq {al : List (Int × Nat)} {st : Sto} {x : PV} (h : Odd al st x) (s2 : Sto) : eqP s2 60 x x = some true := by
  rcases h with rfl | ⟨a, b⟩
  · simp [eqP, oneRef, eqN, seqOf, allEq, eqS, vOf, eqV, lstOf]
  · cases x <;> first | exact a.elim | simp [eqP, oneRef, eqN, seqOf, allEq, eqS, vOf, eqV, lstOf]
theorem pair_eq {al : List (Int × Nat)} {st s2 : Sto} {x : PV} (h : Odd al st x) : eqN s2 (eqP s2 60) (.tup [.str "process", x]) (.tup [.str "process", x]) = some true := by
  simp [eqN, seqOf, allEq, eqP_str, h.eq s2]
abbrev meO : MEs := (mCons (mC .non) (mCons (mC (.int 0)) (mCons (mNeg (mC (.int 1))) (mCons (mOp oAdd (mVar 6) (mC (.int 1))) (mCons (mC (.str "1")) (mCons (mLst mNil) (mCons mDict0 (mCons (mTup (mCons (mC (.int 1)) mNil)) (mCons (mOp oEq (mC (.int 1)) (mC (.int 1))) (mCons (mOp oEq (mC (.int 1)) (mC (.int 0))) mNil))))))))))
abbrev mOdd : ME := mCall p__law_one gp__law_one (mCons (mVar 2) (mCons (mLst meO) mNil))
abbrev mPair : ME := (mTup (mCons (mC (.str "process")) (mCons (mVar 11) mNil)))
abbrev mSaid (f : ME) : ME := mLam (subOf subT) hs__law_said N__law_said.length f
abbrev bl_ : MS := sRet (mC (.bl false))
def if1 : MS := (sIf (mOrT (mTru (mOp oNe (mSaid (mCall p_fork gp_fork (mCons (mVar 4) (mCons (mVar 11) mNil)))) mPair)) (mTru (mOp oNe (mCall p_processes gp_processes (mCons (mVar 4) mNil)) (mVar 5)))) bl_ sSkip)
def if2 : MS := (sIf (mTru (mOp oNe (mSaid (mCall p_leave gp_leave (mCons (mVar 4) (mCons (mVar 11) mNil)))) mPair)) bl_ sSkip)
def if3 : MS := (sIf (mOrT (mTru (mOp oNe (mSaid (mCall p_fresh gp_fresh (mCons (mVar 4) (mCons (mVar 11) mNil)))) mPair)) (mTru (mOp oNe (mCall p_now gp_now (mCons (mVar 4) mNil)) (mOp oAdd (mVar 7) (mC (.int 1)))))) bl_ sSkip)
def bOdd : MS := (sSeq (sSet 11 mOdd) (sSeq if1 (sSeq if2 if3)))
section
variable {st0 st st' : Sto} {E : SE} {w s A : Nat} {step last m : Int} {al : List (Int × Nat)} {c x1 v3 v7 v8 v9 v10 v11 : Option PV} {d : Int}
theorem odd_at (I : Inv1 st0 E w s A step last m al st) (hm : m < 100000000) :
    ∃ x st', mOdd (sg c x1 w s A last v3 v7 v8 v9 v10 v11) st = .ok x st' ∧ Odd al st' x ∧ Inv1 st0 E w s A step last (m + 1) al st' := by
  have k : Keep st ((st.add (.lst [])).add (.dct [] false)) := Keep.add.trans Keep.add
  have g1 : ((st.add (.lst [])).add (.dct [] false)).get st.nx = some (.lst []) := get_add_old get_add_new
  have g2 : ((st.add (.lst [])).add (.dct [] false)).get (st.nx + 1) = some (.dct [] false) := by
    have := get_add_new (st := st.add (.lst [])) (o' := .dct [] false)
    rw [Sto.nx_add] at this; exact this
  have I1 := I.keep k
  have lw := I.W.lt
  obtain ⟨xs, hxs⟩ : ∃ xs : List PV, xs = [.non, .int 0, .int (-1), .int (last + 1), .str "1", .ref st.nx, .ref (st.nx + 1), .tup [.int 1], .bl true, .bl false] := ⟨_, rfl⟩
  have xl : xs.length = 10 := by rw [hxs]; rfl
  have e1 : meO (sg c x1 w s A last v3 v7 v8 v9 v10 v11) st = .ok xs ((st.add (.lst [])).add (.dct [] false)) := by
    rw [hxs]
    simp [mCons, mNil, mVar, Res.bind, mLst, mC, sz, mkNew, mNeg, mOp, oAdd, eq10, eq11, mDict0, mTup, Sto.nx_add]
  have hx : ∀ x ∈ xs, Odd al ((st.add (.lst [])).add (.dct [] false)) x ∧ x ≠ .ref w := fun x hx => by
    rw [hxs] at hx
    simp only [List.mem_cons, List.not_mem_nil, or_false] at hx
    rcases hx with rfl | rfl | rfl | rfl | rfl | rfl | rfl | rfl | rfl | rfl
    · exact ⟨.inr ⟨trivial, fun i q => nomatch q⟩, fun q => nomatch q⟩
    · exact ⟨.inr ⟨trivial, fun i q p hp => by cases q; have := I.S.le p hp; omega⟩, fun q => nomatch q⟩
    · exact ⟨.inr ⟨trivial, fun i q p hp => by cases q; have := I.S.le p hp; omega⟩, fun q => nomatch q⟩
    · exact ⟨.inr ⟨trivial, fun i q p hp => by cases q; have := I.S.le p hp; omega⟩, fun q => nomatch q⟩
    · exact ⟨.inr ⟨trivial, fun i q => nomatch q⟩, fun q => nomatch q⟩
    · exact ⟨.inr ⟨.inl g1, fun i q => nomatch q⟩, fun q => by cases q; omega⟩
    · exact ⟨.inr ⟨.inr g2, fun i q => nomatch q⟩, fun q => by cases q; omega⟩
    · exact ⟨.inl rfl, fun q => nomatch q⟩
    · exact ⟨.inr ⟨trivial, fun i q => nomatch q⟩, fun q => nomatch q⟩
    · exact ⟨.inr ⟨trivial, fun i q => nomatch q⟩, fun q => nomatch q⟩
  have I2 := I1.keep (Keep.add (o := .lst xs))
  have lw2 := I1.W.lt
  obtain ⟨j, x, s3, ej, e3, W3, b3⟩ := one I2.W (by omega) (get_add_new (st := (st.add (.lst [])).add (.dct [] false)) (o' := .lst xs)) (by omega) (by omega) (by omega)
  obtain ⟨ho, hw⟩ := hx x (List.mem_of_getElem? ej)
  have ho2 := ho.keep (Keep.add (o := .lst xs))
  refine ⟨x, s3, ?_, ho2.imp id fun ⟨a, b⟩ => ⟨a.but b3 hw, b⟩, I2.well b3 W3⟩
  have len : xs.length ≤ 16777216 := by omega
  have v2 : mVar 2 (sg c x1 w s A last v3 v7 v8 v9 v10 v11) st = .ok (.ref w) st := rfl
  have em : mLst meO (sg c x1 w s A last v3 v7 v8 v9 v10 v11) st = .ok (.ref ((st.add (.lst [])).add (.dct [] false)).nx) (((st.add (.lst [])).add (.dct [] false)).add (.lst xs)) := by
    unfold mLst
    rw [e1]
    simp [Res.bind, sz, len, mkNew]
  simp only [mOdd, mCall, gp__law_one, mCons, mNil, v2, em, Res.bind, e3]
theorem said_at {f : ME} {σ : Sl} {x : PV} (ho : Odd al st x) (hf : f σ st = .err ⟨2, [("process", x)]⟩ st) (h11 : σ[11]? = some (some x)) : mTru (mOp oNe (mSaid f) mPair) σ st = .ok false st := by
  have e1 : mSaid f σ st = .ok (.tup [.str "process", x]) st := said_proc hf
  have e2 := pair_eq (s2 := st) ho
  unfold mTru mOp
  rw [e1]
  simp [Res.bind, mPair, mTup, mCons, mNil, mVar, mC, h11, sz, oNe, e2, truP]
theorem bodd_at (I : Inv1 st0 E w s A step last m al st) (hm : m < 100000000) {k : Int} (hk : k + 1 = step) :
    ∃ x st', bOdd (sg c x1 w s A last v3 (some (.int k)) v8 v9 v10 v11) st = .nx (sg c x1 w s A last v3 (some (.int k)) v8 v9 v10 x) st' ∧ Keep st0 st' := by
  obtain ⟨x, s1, e1, ho, I1⟩ := odd_at (c := c) (x1 := x1) (v3 := v3) (v7 := some (.int k)) (v8 := v8) (v9 := v9) (v10 := v10) (v11 := v11) I hm
  have k1 : Keep s1 (s1.add (.lst (ids al))) := Keep.add
  have I2 := I1.keep k1
  have ho2 := ho.keep k1
  have len := I1.len
  have e2 := processes_at I1.S (by omega)
  have e3 := eq_ids (get_add_new (st := s1) (o' := .lst (ids al))) I2.al_
  have e4 := p_now_at I2.S
  refine ⟨some x, s1.add (.lst (ids al)), ?_, I2.k⟩
  unfold bOdd
  rw [sSeq_nx (σ1 := sg c x1 w s A last v3 (some (.int k)) v8 v9 v10 (some x)) (sSet_nx e1)]
  rw [sSeq_nx (f := if1) (σ1 := sg c x1 w s A last v3 (some (.int k)) v8 v9 v10 (some x)) (st1 := s1.add (.lst (ids al))) (by
    have q := said_at (σ := sg c x1 w s A last v3 (some (.int k)) v8 v9 v10 (some x)) (f := (mCall p_fork gp_fork (mCons (mVar 4) (mCons (mVar 11) mNil)))) ho (by
      simp [mCall, gp_fork, mCons, mNil, mVar, Res.bind, fork_bad I1.S ho.noP]) rfl
    unfold if1
    rw [sIf_ff (st1 := s1.add (.lst (ids al))) (by
      unfold mOrT
      rw [q]
      simp [Res.bind, mTru, mOp, mCall, gp_processes, mCons, mNil, mVar, e2, oNe, e3, truP])]
    rfl)]
  rw [sSeq_nx (f := if2) (σ1 := sg c x1 w s A last v3 (some (.int k)) v8 v9 v10 (some x)) (st1 := s1.add (.lst (ids al))) (by
    have q := said_at (σ := sg c x1 w s A last v3 (some (.int k)) v8 v9 v10 (some x)) (f := (mCall p_leave gp_leave (mCons (mVar 4) (mCons (mVar 11) mNil)))) ho2 (by
      simp [mCall, gp_leave, mCons, mNil, mVar, Res.bind, leave_bad I2.S ho2.noP]) rfl
    unfold if2
    rw [sIf_ff q]
    rfl)]
  have q := said_at (σ := sg c x1 w s A last v3 (some (.int k)) v8 v9 v10 (some x)) (f := (mCall p_fresh gp_fresh (mCons (mVar 4) (mCons (mVar 11) mNil)))) ho2 (by
      simp [mCall, gp_fresh, mCons, mNil, mVar, Res.bind, fresh_bad I2.S ho2.noP]) rfl
  unfold if3
  subst hk
  rw [sIf_ff (st1 := s1.add (.lst (ids al))) (by
      unfold mOrT
      rw [q]
      simp [Res.bind, mTru, mOp, mCall, gp_now, mCons, mNil, mVar, mC, oAdd, e4, oNe, eq_int, truP])]
  rfl
end
end LW
set_option linter.all false
set_option maxRecDepth 100000
set_option maxHeartbeats 8000000
namespace LW
open MP PySem L2
def bTst : MS := (sIf (mNotT (mTru (mCall p__law_system_right gp__law_system_right (mCons (mVar 2) mNil))))
    (sRet (mC (.bl false)))
    sSkip)
def bSys : MS := (sFor (mwR1 (mCons (mC (.int 3)) mNil)) (gN 3) bTst)
def bBody : MS := (sSeq (sSet 2 (mCall p__law_well gp__law_well (mCons (mVar 1) mNil)))
    (sSeq bSys
    (sSeq (sSet 4 (mMake 6 p_System___init__ gp_System___init___k0 mNil mNil))
    (sSeq (sSet 5 (mLst mNil))
    (sSeq (sSet 6 (mC (.int 0)))
    (sSeq kFor bOdd))))))
def bLaw : MS := (sSeq (sFor (mwE (mOp oAdd (mSl (mVar 0) moNone (moSome (mC (.int 8)))) (mLst (mCons (mC (.int 0)) (mCons (mC (.int 1)) mNil))))) (gN 1) bBody) (sRet (mC (.bl true))))
theorem blaw_eq : b_law = bLaw := rfl
theorem bsys_at {st : Sto} {w : Nat} {c x1 v3 v4 v5 v6 v7 v8 v9 v10 v11 : Option PV} (W : Well st w 0) : ∃ v3' st', bSys [c, x1, some (.ref w), v3, v4, v5, v6, v7, v8, v9, v10, v11] st = .nx [c, x1, some (.ref w), v3', v4, v5, v6, v7, v8, v9, v10, v11] st' ∧ Well st' w 15 ∧ But w st st' := by
  obtain ⟨σ', st', e, h⟩ := forGo_idx (gd := []) (g := gN 3) (b := bTst) (fun k σ s => k ≤ 3 → ∃ v, σ = [c, x1, some (.ref w), v, v4, v5, v6, v7, v8, v9, v10, v11] ∧ Well s w (5 * (k : Int)) ∧ But w st s)
    (fun _ _ _ _ => rfl) (rngP 0 3) 0 (fun j x hx σ s P => by
      have hj : j < 3 := by
        have := (List.getElem?_eq_some_iff.mp hx).1
        simpa [rngP] using this
      obtain ⟨v, rfl, W, b⟩ := P (by omega)
      rw [Nat.zero_add] at W
      obtain ⟨s2, e2, W2, b2⟩ := system_right W (by omega)
      refine ⟨[c, x1, some (.ref w), some x, v4, v5, v6, v7, v8, v9, v10, v11], [c, x1, some (.ref w), some x, v4, v5, v6, v7, v8, v9, v10, v11], s2, rfl, ?_, fun _ => ⟨some x, rfl, W2.le (by omega), b.trans b2⟩⟩
      unfold bTst
      rw [sIf_ff (st1 := s2) (by simp [mNotT, mTru, mCall, gp__law_system_right, mCons, mNil, mVar, Res.bind, e2, truP])]
      rfl) [c, x1, some (.ref w), v3, v4, v5, v6, v7, v8, v9, v10, v11] st (fun _ => ⟨v3, rfl, W.le (by omega), But.refl⟩)
  have rl : (rngP 0 3).length = 3 := rfl
  rw [rl, Nat.zero_add] at h
  obtain ⟨v, rfl, W', b'⟩ := h (by omega)
  refine ⟨v, st', ?_, W'.le (by omega), b'⟩
  unfold bSys sFor
  exact e
theorem body_at {st : Sto} {cell : Int} {c v2 v3 v4 v5 v6 v7 v8 v9 v10 v11 : Option PV} : ∃ σ' st', bBody [c, some (.int cell), v2, v3, v4, v5, v6, v7, v8, v9, v10, v11] st = .nx σ' st' ∧ (∃ v1 v2 v3 v4 v5 v6 v7 v8 v9 v10 v11, σ' = [c, v1, v2, v3, v4, v5, v6, v7, v8, v9, v10, v11]) ∧ Keep st st' := by
  obtain ⟨s1, e1, W1, b1⟩ := well_new (st := st) (cell := cell)
  have k1 : Keep st s1 := ⟨(b1 0).nx, fun m h => (b1 st.nx).eq m h (by omega)⟩
  obtain ⟨v3', s2, e2, W2, b2⟩ := bsys_at (c := c) (x1 := some (.int cell)) (v3 := v3) (v4 := v4) (v5 := v5) (v6 := v6) (v7 := v7) (v8 := v8) (v9 := v9) (v10 := v10) (v11 := v11) W1
  have k2 := keep_but k1 b2 (Nat.le_refl _)
  obtain ⟨E, s3, e3, S3, p3, b3⟩ := sys_new (σ := [c, some (.int cell), some (.ref st.nx), v3', v4, v5, v6, v7, v8, v9, v10, v11]) (st := s2)
  have k3 : Keep s2 s3 := ⟨(b3 0).nx, fun m h => (b3 s2.nx).eq m h (by omega)⟩
  have k4 : Keep s3 (s3.add (.lst [])) := Keep.add
  have n2 := k2.nx
  have n3 := k3.nx
  have lt := W2.lt
  have I : Inv1 st E st.nx s2.nx s3.nx 0 0 15 [] (s3.add (.lst [])) := ⟨S3.keep k4, (W2.keep k3).keep k4, get_add_new, by simp, Int.le_refl _, by
      have := Sto.lt_nx S3.e
      omega, by omega, Nat.le_refl _, by omega, by omega, by omega, (k2.trans k3).trans k4⟩
  obtain ⟨n, last, al, v8', v9', v10', s5, e5, I5⟩ := kfor_at (c := c) (x1 := some (.int cell)) (v3 := v3') (v7 := v7) (v8 := v8) (v9 := v9) (v10 := v10) (v11 := v11) I (by omega)
  obtain ⟨x, s6, e6, k6⟩ := bodd_at (c := c) (x1 := some (.int cell)) (v3 := v3') (v8 := v8') (v9 := v9') (v10 := v10') (v11 := v11) I5 (by omega) (k := (n : Int) - 1) (by omega)
  refine ⟨sg c (some (.int cell)) st.nx s2.nx s3.nx last v3' (some (.int ((n : Int) - 1))) v8' v9' v10' x, s6, ?_, ⟨_, _, _, _, _, _, _, _, _, _, _, rfl⟩, k6⟩
  unfold bBody
  rw [sSeq_nx (σ1 := [c, some (.int cell), some (.ref st.nx), v3, v4, v5, v6, v7, v8, v9, v10, v11]) (sSet_nx (st1 := s1) (v := .ref st.nx) (by
    simp [mCall, gp__law_well, mCons, mNil, mVar, Res.bind, e1]))]
  rw [sSeq_nx e2]
  rw [sSeq_nx (σ1 := [c, some (.int cell), some (.ref st.nx), v3', some (.ref s2.nx), v5, v6, v7, v8, v9, v10, v11]) (sSet_nx e3)]
  rw [sSeq_nx (σ1 := [c, some (.int cell), some (.ref st.nx), v3', some (.ref s2.nx), some (.ref s3.nx), v6, v7, v8, v9, v10, v11]) (sSet_nx (st1 := s3.add (.lst [])) (v := .ref s3.nx) (by rfl))]
  rw [sSeq_nx (σ1 := [c, some (.int cell), some (.ref st.nx), v3', some (.ref s2.nx), some (.ref s3.nx), some (.int 0), v7, v8, v9, v10, v11]) (sSet_nx (st1 := s3.add (.lst [])) (v := .int 0) (by rfl))]
  rw [sSeq_nx e5]
  exact e6
theorem pure_law (ns : List Int) (h : ns.length ≤ 63) (hb : ∀ z ∈ ns, Builtin.Int.intBits z ≤ 1048576) : ∃ s', p_law [.rls (ns.map .int)] ⟨#[]⟩ = .ok (.bl true) s' := by
  obtain ⟨xs, hxs⟩ : ∃ xs, xs = cutP (ns.map .int) none (some 8) := ⟨_, rfl⟩
  have sub : ∀ x ∈ xs, x ∈ ns.map PV.int := fun x hx => by
    rw [hxs] at hx
    unfold cutP at hx
    exact List.mem_of_mem_drop (List.mem_of_mem_take hx)
  have xl : xs.length ≤ 63 := by
    rw [hxs]
    unfold cutP
    rw [List.length_take, List.length_drop, List.length_map]
    omega
  have len : xs.length + 2 ≤ 16777216 := by omega
  have g0 : (((⟨#[]⟩ : Sto).add (.lst xs)).add (.lst [.int 0, .int 1])).get 0 = some (.lst xs) := rfl
  have g1 : (((⟨#[]⟩ : Sto).add (.lst xs)).add (.lst [.int 0, .int 1])).get 1 = some (.lst [.int 0, .int 1]) := rfl
  have g2 : ((((⟨#[]⟩ : Sto).add (.lst xs)).add (.lst [.int 0, .int 1])).add (.lst (xs ++ [.int 0, .int 1]))).get 2 = some (.lst (xs ++ [.int 0, .int 1])) := rfl
  have ew : mwE (mOp oAdd (mSl (mVar 0) moNone (moSome (mC (.int 8)))) (mLst (mCons (mC (.int 0)) (mCons (mC (.int 1)) mNil)))) [some (.rls (ns.map .int)), none, none, none, none, none, none, none, none, none, none, none] ⟨#[]⟩ =
      .ok (xs ++ [.int 0, .int 1], [(2, .lst (xs ++ [.int 0, .int 1]))]) ((((⟨#[]⟩ : Sto).add (.lst xs)).add (.lst [.int 0, .int 1])).add (.lst (xs ++ [.int 0, .int 1]))) := by
    have e1 : mSl (mVar 0) moNone (moSome (mC (.int 8))) [some (.rls (ns.map .int)), none, none, none, none, none, none, none, none, none, none, none] ⟨#[]⟩ = .ok (.ref 0) ((⟨#[]⟩ : Sto).add (.lst xs)) := by rw [hxs]; rfl
    have e2 : (mLst (mCons (mC (.int 0)) (mCons (mC (.int 1)) mNil))) [some (.rls (ns.map .int)), none, none, none, none, none, none, none, none, none, none, none] ((⟨#[]⟩ : Sto).add (.lst xs)) = .ok (.ref 1) (((⟨#[]⟩ : Sto).add (.lst xs)).add (.lst [.int 0, .int 1])) := rfl
    have e3 : oAdd (.ref 0) (.ref 1) (((⟨#[]⟩ : Sto).add (.lst xs)).add (.lst [.int 0, .int 1])) = .ok (.ref 2) ((((⟨#[]⟩ : Sto).add (.lst xs)).add (.lst [.int 0, .int 1])).add (.lst (xs ++ [.int 0, .int 1]))) := by
      simp [oAdd, tupP, oAddL, ownL, g0, g1, sz, len, mkNew]
      rfl
    unfold mwE mOp
    rw [e1]
    simp only [Res.bind, e2, e3]
    simp only [walkV, g2]
  obtain ⟨σ', st', e, ⟨hσ, hg⟩⟩ := forGo_inv (gd := [(2, .lst (xs ++ [.int 0, .int 1]))]) (g := gN 1) (b := bBody) (fun σ s => (∃ v1 v2 v3 v4 v5 v6 v7 v8 v9 v10 v11, σ = [some (.rls (ns.map .int)), v1, v2, v3, v4, v5, v6, v7, v8, v9, v10, v11]) ∧ s.get 2 = some (.lst (xs ++ [.int 0, .int 1])))
    (fun σ s ⟨_, h⟩ => by simp [chk, h]) (xs ++ [.int 0, .int 1]) (fun x hx σ s ⟨⟨v1, v2, v3, v4, v5, v6, v7, v8, v9, v10, v11, hσ⟩, hg⟩ => by
      obtain ⟨cell, rfl⟩ : ∃ i, x = .int i := by
        rcases List.mem_append.mp hx with hx | hx
        · obtain ⟨i, _, q⟩ := List.mem_map.mp (sub x hx)
          exact ⟨i, q.symm⟩
        · simp at hx
          rcases hx with rfl | rfl
          · exact ⟨_, rfl⟩
          · exact ⟨_, rfl⟩
      subst hσ
      obtain ⟨σ3, s3, e3, h3, k3⟩ := body_at (st := s) (cell := cell) (c := some (.rls (ns.map .int))) (v2 := v2) (v3 := v3) (v4 := v4) (v5 := v5) (v6 := v6) (v7 := v7) (v8 := v8) (v9 := v9) (v10 := v10) (v11 := v11)
      exact ⟨_, σ3, s3, rfl, e3, h3, k3.get hg⟩)
    [some (.rls (ns.map .int)), none, none, none, none, none, none, none, none, none, none, none] _ ⟨⟨none, none, none, none, none, none, none, none, none, none, none, rfl⟩, g2⟩
  refine ⟨st', ?_⟩
  show outV (b_law [some (.rls (ns.map .int)), none, none, none, none, none, none, none, none, none, none, none] ⟨#[]⟩) = _
  rw [blaw_eq]
  unfold bLaw
  rw [sSeq_nx (σ1 := σ') (st1 := st') (by
    unfold sFor
    rw [ew]
    exact e)]
  rfl
end LW
set_option Elab.async false
set_option linter.all false
set_option maxRecDepth 100000
set_option maxHeartbeats 4000000
open PySem PySem.W PyProof.Rows
set_option maxRecDepth 100000 in
set_option maxHeartbeats 0 in
theorem PySem.Challenge.cw_pageclass_k01_systems_and_processes_holds : PySem.Challenge.rw_pageclass_k01_systems_and_processes.Holds := by
  w_on; o_law; k_head; (case hw => w_witness2)
  k_fill
  refine LamX.walk_ofTs (l := PySem.Challenge.rw_pageclass_k01_systems_and_processes) (n := 63) (k := 9) (x := "script") (CX := fun w => L2.CX PySem.Challenge.rw_pageclass_k01_systems_and_processes.prog w) rfl (by decide) rfl ⟨rfl, by decide, by decide⟩ (fun w h Y => PySem.W.km_in_of Y) ?F (fun _ _ _ _ _ ⟨_, _, _, _, _, _, _, _, _, _, _, _, z⟩ => z)
  case F =>
    intro w mg fa h Y KX G hmg
    refine' LW.all_mk LW.pure_law KX (PySem.W.km_tabs_of Y) G hmg ?aC0 ?kc0 ?ga0 ?gg0 ?eb0 ?hd0 ?ic0 ?tc0 ?aC1 ?kc1 ?ga1 ?gg1 ?eb1 ?hd1 ?ic1 ?tc1 ?aC2 ?kc2 ?ga2 ?gg2 ?eb2 ?hd2 ?ic2 ?tc2 ?aC3 ?kc3 ?ga3 ?gg3 ?eb3 ?hd3 ?ic3 ?tc3 ?aC4 ?kc4 ?pg4 ?hd4 ?po4 ?sa4 ?mk4 ?n4_0 ?n4_1 ?n4_2 ?n4_3 ?n4_4 ?n4_5 ?n4_6 ?aC5 ?kc5 ?pg5 ?hd5 ?po5 ?sa5 ?mk5 ?n5_0 ?n5_1 ?n5_2 ?n5_3 ?n5_4 ?n5_5 ?n5_6 ?n5_7 ?n5_8 ?n5_9 ?n5_10 ?n5_11 ?n5_12 ?n5_13 ?n5_14 ?aC6 ?kc6 ?pg6 ?hd6 ?po6 ?sa6 ?mk6 ?n6_0 ?n6_1 ?n6_2 ?n6_3 ?n6_4 ?n6_5 ?n6_6 ?n6_7 ?n6_8 ?n6_9 ?n6_10 ?n6_11 ?n6_12 ?n6_13 ?ss0_0 ?ss0_1 ?ss0_2 ?ss0_3 ?ss1_0 ?ss1_1 ?ss1_2 ?ss1_3 ?ss2_0 ?ss2_1 ?ss2_2 ?ss2_3 ?ss3_0 ?ss3_1 ?ss3_2 ?ss3_3 ?xn1 ?xl1 ?xb1 ?sa1 ?xn2 ?xl2 ?xb2 ?sa2 ?bg0 ?br0 ?be0 ?a_NoSystem___init__ ?i_NoSystem___init__ ?t_NoSystem___init__ ?l_NoSystem___init__ ?c_NoSystem___init___ ?k_NoSystem___init__ ?a_NoProcess___init__ ?i_NoProcess___init__ ?t_NoProcess___init__ ?l_NoProcess___init__ ?c_NoProcess___init___ ?k_NoProcess___init__ ?a__law_said ?l__law_said ?c__law_said_ ?k__law_said ?a_Memory___init__ ?i_Memory___init__ ?l_Memory___init__ ?c_Memory___init___ ?k_Memory___init__ ?a_Stack___init__ ?i_Stack___init__ ?l_Stack___init__ ?c_Stack___init___ ?k_Stack___init__ ?a_is_integer ?l_is_integer ?c_is_integer_ ?k_is_integer ?a_is_between ?l_is_between ?c_is_between_ ?k_is_between ?a_System___init__ ?i_System___init__ ?l_System___init__ ?c_System___init___ ?k_System___init__ ?w_System___init___frames ?w_System___init___slots ?w_System___init___strict ?a__law_draw ?l__law_draw ?c__law_draw_ ?k__law_draw ?a__law_one ?l__law_one ?c__law_one_ ?k__law_one ?a__law_is_number ?l__law_is_number ?c__law_is_number_ ?k__law_is_number ?a_now ?l_now ?c_now_ ?k_now ?a_processes ?l_processes ?c_processes_ ?k_processes ?a__law_system_right ?l__law_system_right ?c__law_system_right_ ?k__law_system_right ?lc__law_system_right ?p__law_system_right_ ?hc__law_system_right ?np__law_system_right ?mt__law_system_right ?a__law_well ?l__law_well ?c__law_well_ ?k__law_well ?a_Stack_put ?i_Stack_put ?l_Stack_put ?c_Stack_put_ ?k_Stack_put ?a_Stack_relock ?i_Stack_relock ?l_Stack_relock ?c_Stack_relock_ ?k_Stack_relock ?a_System_locked_items ?i_System_locked_items ?l_System_locked_items ?c_System_locked_items_ ?k_System_locked_items ?a_System_locked_pages ?i_System_locked_pages ?l_System_locked_pages ?c_System_locked_pages_ ?k_System_locked_pages ?a_System_settle ?i_System_settle ?l_System_settle ?c_System_settle_ ?k_System_settle ?a_sorted_pages ?l_sorted_pages ?c_sorted_pages_ ?k_sorted_pages ?a_places ?l_places ?c_places_ ?k_places ?a_tidy ?l_tidy ?c_tidy_ ?k_tidy ?a_System_done ?i_System_done ?l_System_done ?c_System_done_ ?k_System_done ?a_check_charge ?l_check_charge ?c_check_charge_ ?k_check_charge ?d_check_charge ?a_check_process ?l_check_process ?c_check_process_ ?k_check_process ?a_child_pages ?l_child_pages ?c_child_pages_ ?k_child_pages ?a_new_process ?l_new_process ?c_new_process_ ?k_new_process ?a_fork ?l_fork ?c_fork_ ?k_fork ?a_fresh ?l_fresh ?c_fresh_ ?k_fresh ?a_leave ?l_leave ?c_leave_ ?k_leave ?a_spawn ?l_spawn ?c_spawn_ ?k_spawn ?a_law ?l_law ?c_law_ ?k_law ?lc_law ?p_law_ ?hc_law ?np_law ?mt_law ?ne__law_system_right_law ?no_range ?no_enumerate ?no_zip ?no_len ?no_int ?no_abs ?no_isinstance ?no_sum ?no_any ?no_all ?no_sorted ?no_list ?no_max ?no_min ?no_bool ?no_str ?no_tuple ?no_dict
    (case aC0 => k_is)
    (case kc0 => k_is)
    (case ga0 => k_is)
    (case gg0 => k_is)
    (case eb0 => k_is)
    (case hd0 => k_is)
    (case ic0 => k_is)
    (case tc0 => k_is)
    (case aC1 => k_is)
    (case kc1 => k_is)
    (case ga1 => k_is)
    (case gg1 => k_is)
    (case eb1 => k_is)
    (case hd1 => k_is)
    (case ic1 => k_is)
    (case tc1 => k_is)
    (case aC2 => k_is)
    (case kc2 => k_is)
    (case ga2 => k_is)
    (case gg2 => k_is)
    (case eb2 => k_is)
    (case hd2 => k_is)
    (case ic2 => k_is)
    (case tc2 => k_is)
    (case aC3 => k_is)
    (case kc3 => k_is)
    (case ga3 => k_is)
    (case gg3 => k_is)
    (case eb3 => k_is)
    (case hd3 => k_is)
    (case ic3 => k_is)
    (case tc3 => k_is)
    (case aC4 => k_is)
    (case kc4 => k_is)
    (case pg4 => k_is)
    (case hd4 => k_is)
    (case po4 => k_is)
    (case sa4 => k_is)
    (case mk4 => k_is)
    (case n4_0 => k_is)
    (case n4_1 => k_is)
    (case n4_2 => k_is)
    (case n4_3 => k_is)
    (case n4_4 => k_is)
    (case n4_5 => k_is)
    (case n4_6 => k_is)
    (case aC5 => k_is)
    (case kc5 => k_is)
    (case pg5 => k_is)
    (case hd5 => k_is)
    (case po5 => k_is)
    (case sa5 => k_is)
    (case mk5 => k_is)
    (case n5_0 => k_is)
    (case n5_1 => k_is)
    (case n5_2 => k_is)
    (case n5_3 => k_is)
    (case n5_4 => k_is)
    (case n5_5 => k_is)
    (case n5_6 => k_is)
    (case n5_7 => k_is)
    (case n5_8 => k_is)
    (case n5_9 => k_is)
    (case n5_10 => k_is)
    (case n5_11 => k_is)
    (case n5_12 => k_is)
    (case n5_13 => k_is)
    (case n5_14 => k_is)
    (case aC6 => k_is)
    (case kc6 => k_is)
    (case pg6 => k_is)
    (case hd6 => k_is)
    (case po6 => k_is)
    (case sa6 => k_is)
    (case mk6 => k_is)
    (case n6_0 => k_is)
    (case n6_1 => k_is)
    (case n6_2 => k_is)
    (case n6_3 => k_is)
    (case n6_4 => k_is)
    (case n6_5 => k_is)
    (case n6_6 => k_is)
    (case n6_7 => k_is)
    (case n6_8 => k_is)
    (case n6_9 => k_is)
    (case n6_10 => k_is)
    (case n6_11 => k_is)
    (case n6_12 => k_is)
    (case n6_13 => k_is)
    (case ss0_0 => first | rfl | k_is)
    (case ss0_1 => first | rfl | k_is)
    (case ss0_2 => first | rfl | k_is)
    (case ss0_3 => first | rfl | k_is)
    (case ss1_0 => first | rfl | k_is)
    (case ss1_1 => first | rfl | k_is)
    (case ss1_2 => first | rfl | k_is)
    (case ss1_3 => first | rfl | k_is)
    (case ss2_0 => first | rfl | k_is)
    (case ss2_1 => first | rfl | k_is)
    (case ss2_2 => first | rfl | k_is)
    (case ss2_3 => first | rfl | k_is)
    (case ss3_0 => first | rfl | k_is)
    (case ss3_1 => first | rfl | k_is)
    (case ss3_2 => first | rfl | k_is)
    (case ss3_3 => first | rfl | k_is)
    (case xn1 => k_is)
    (case xl1 => k_is)
    (case xb1 => decide +kernel)
    (case sa1 => k_is)
    (case xn2 => k_is)
    (case xl2 => k_is)
    (case xb2 => decide +kernel)
    (case sa2 => k_is)
    (case bg0 => k_is)
    (case br0 => k_is)
    (case be0 => k_is)
    (case a_NoSystem___init__ => k_is)
    (case i_NoSystem___init__ => k_is)
    (case t_NoSystem___init__ => k_is)
    (case l_NoSystem___init__ => k_is)
    (case c_NoSystem___init___ => k_is)
    (case k_NoSystem___init__ => k_is)
    (case a_NoProcess___init__ => k_is)
    (case i_NoProcess___init__ => k_is)
    (case t_NoProcess___init__ => k_is)
    (case l_NoProcess___init__ => k_is)
    (case c_NoProcess___init___ => k_is)
    (case k_NoProcess___init__ => k_is)
    (case a__law_said => k_is)
    (case l__law_said => k_is)
    (case c__law_said_ => k_is)
    (case k__law_said => k_is)
    (case a_Memory___init__ => k_is)
    (case i_Memory___init__ => k_is)
    (case l_Memory___init__ => k_is)
    (case c_Memory___init___ => k_is)
    (case k_Memory___init__ => k_is)
    (case a_Stack___init__ => k_is)
    (case i_Stack___init__ => k_is)
    (case l_Stack___init__ => k_is)
    (case c_Stack___init___ => k_is)
    (case k_Stack___init__ => k_is)
    (case a_is_integer => k_is)
    (case l_is_integer => k_is)
    (case c_is_integer_ => k_is)
    (case k_is_integer => k_is)
    (case a_is_between => k_is)
    (case l_is_between => k_is)
    (case c_is_between_ => k_is)
    (case k_is_between => k_is)
    (case a_System___init__ => k_is)
    (case i_System___init__ => k_is)
    (case l_System___init__ => k_is)
    (case c_System___init___ => k_is)
    (case k_System___init__ => k_is)
    (case w_System___init___frames => k_is)
    (case w_System___init___slots => k_is)
    (case w_System___init___strict => k_is)
    (case a__law_draw => k_is)
    (case l__law_draw => k_is)
    (case c__law_draw_ => k_is)
    (case k__law_draw => k_is)
    (case a__law_one => k_is)
    (case l__law_one => k_is)
    (case c__law_one_ => k_is)
    (case k__law_one => k_is)
    (case a__law_is_number => k_is)
    (case l__law_is_number => k_is)
    (case c__law_is_number_ => k_is)
    (case k__law_is_number => k_is)
    (case a_now => k_is)
    (case l_now => k_is)
    (case c_now_ => k_is)
    (case k_now => k_is)
    (case a_processes => k_is)
    (case l_processes => k_is)
    (case c_processes_ => k_is)
    (case k_processes => k_is)
    (case a__law_system_right => k_is)
    (case l__law_system_right => k_is)
    (case c__law_system_right_ => k_is)
    (case k__law_system_right => k_is)
    (case lc__law_system_right => k_is)
    (case p__law_system_right_ => rfl)
    (case hc__law_system_right => rfl)
    (case np__law_system_right => rfl)
    (case mt__law_system_right => decide)
    (case a__law_well => k_is)
    (case l__law_well => k_is)
    (case c__law_well_ => k_is)
    (case k__law_well => k_is)
    (case a_Stack_put => k_is)
    (case i_Stack_put => k_is)
    (case l_Stack_put => k_is)
    (case c_Stack_put_ => k_is)
    (case k_Stack_put => k_is)
    (case a_Stack_relock => k_is)
    (case i_Stack_relock => k_is)
    (case l_Stack_relock => k_is)
    (case c_Stack_relock_ => k_is)
    (case k_Stack_relock => k_is)
    (case a_System_locked_items => k_is)
    (case i_System_locked_items => k_is)
    (case l_System_locked_items => k_is)
    (case c_System_locked_items_ => k_is)
    (case k_System_locked_items => k_is)
    (case a_System_locked_pages => k_is)
    (case i_System_locked_pages => k_is)
    (case l_System_locked_pages => k_is)
    (case c_System_locked_pages_ => k_is)
    (case k_System_locked_pages => k_is)
    (case a_System_settle => k_is)
    (case i_System_settle => k_is)
    (case l_System_settle => k_is)
    (case c_System_settle_ => k_is)
    (case k_System_settle => k_is)
    (case a_sorted_pages => k_is)
    (case l_sorted_pages => k_is)
    (case c_sorted_pages_ => k_is)
    (case k_sorted_pages => k_is)
    (case a_places => k_is)
    (case l_places => k_is)
    (case c_places_ => k_is)
    (case k_places => k_is)
    (case a_tidy => k_is)
    (case l_tidy => k_is)
    (case c_tidy_ => k_is)
    (case k_tidy => k_is)
    (case a_System_done => k_is)
    (case i_System_done => k_is)
    (case l_System_done => k_is)
    (case c_System_done_ => k_is)
    (case k_System_done => k_is)
    (case a_check_charge => k_is)
    (case l_check_charge => k_is)
    (case c_check_charge_ => k_is)
    (case k_check_charge => k_is)
    (case d_check_charge => k_is)
    (case a_check_process => k_is)
    (case l_check_process => k_is)
    (case c_check_process_ => k_is)
    (case k_check_process => k_is)
    (case a_child_pages => k_is)
    (case l_child_pages => k_is)
    (case c_child_pages_ => k_is)
    (case k_child_pages => k_is)
    (case a_new_process => k_is)
    (case l_new_process => k_is)
    (case c_new_process_ => k_is)
    (case k_new_process => k_is)
    (case a_fork => k_is)
    (case l_fork => k_is)
    (case c_fork_ => k_is)
    (case k_fork => k_is)
    (case a_fresh => k_is)
    (case l_fresh => k_is)
    (case c_fresh_ => k_is)
    (case k_fresh => k_is)
    (case a_leave => k_is)
    (case l_leave => k_is)
    (case c_leave_ => k_is)
    (case k_leave => k_is)
    (case a_spawn => k_is)
    (case l_spawn => k_is)
    (case c_spawn_ => k_is)
    (case k_spawn => k_is)
    (case a_law => k_is)
    (case l_law => k_is)
    (case c_law_ => k_is)
    (case k_law => k_is)
    (case lc_law => k_is)
    (case p_law_ => rfl)
    (case hc_law => rfl)
    (case np_law => rfl)
    (case mt_law => decide)
    (case ne__law_system_right_law => decide)
    (case no_range => k_is)
    (case no_enumerate => k_is)
    (case no_zip => k_is)
    (case no_len => k_is)
    (case no_int => k_is)
    (case no_abs => k_is)
    (case no_isinstance => k_is)
    (case no_sum => k_is)
    (case no_any => k_is)
    (case no_all => k_is)
    (case no_sorted => k_is)
    (case no_list => k_is)
    (case no_max => k_is)
    (case no_min => k_is)
    (case no_bool => k_is)
    (case no_str => k_is)
    (case no_tuple => k_is)
    (case no_dict => k_is)

