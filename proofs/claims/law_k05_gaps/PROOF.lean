import PyProof.Rows.All
import HandS.ForMost
import HandS.ForExc
import HandS.Flow
import HandS.IsInst
import HandS.Defaults
import HandS.Lambda
import PyProof.NeKinds
import HandS.CallSlots
import HandS.MakeKwOnly
import HandS.Zip
import HandS.DictComp
import HandS.SortInts
import HandS.TupAny
import HandS.More
import HandS.WordsDict
import HandS.Conv
import HandS.SetKeys
import HandS.DictTup
import PyProof.DictUpdate
import HandS.ExcInit
import HandS.ExcOwn
import HandS.ExcIs
import HandS.ExcField
import HandS.TryMany
import PyProof.DictMoreH
import HandS.WordsExc
import HandS.EndTab
import KE.KNestM
import Wide.All
import OpenK.AllK
import Wide.FinOn
import PySem.Challenge.RW_pageclass_k05_gaps
set_option Elab.async false
set_option linter.all false
set_option maxRecDepth 100000
set_option maxHeartbeats 2000000
namespace MP
open PySem PySem.Spec L2

/-- pure values: tuples (and the script's list, which is only read) are values; lists, dicts, instances stand in the store -/
inductive PV where
  | non | bl (b : Bool) | int (i : Int) | str (x : Str) | tup (xs : List PV) | ktp (xs : List PV) | rls (xs : List PV) | ref (n : Nat) | ty (n : String)
  deriving Inhabited
mutual
def PV.eqb : PV → PV → Bool
  | .non, .non => true
  | .bl a, .bl b => a == b
  | .int a, .int b => a == b
  | .str a, .str b => decide (a = b)
  | .tup a, .tup b => PV.eqbs a b
  | .ktp a, .ktp b => PV.eqbs a b
  | .rls a, .rls b => PV.eqbs a b
  | .ref a, .ref b => a == b
  | .ty a, .ty b => a == b
  | _, _ => false
def PV.eqbs : List PV → List PV → Bool
  | [], [] => true
  | x :: xs, y :: ys => PV.eqb x y && PV.eqbs xs ys
  | _, _ => false
end
mutual
theorem PV.of_eqb : ∀ {x y : PV}, PV.eqb x y = true → x = y
  | .non, y, h => by cases y <;> first | rfl | simp [PV.eqb] at h
  | .bl a, y, h => by cases y <;> simp_all [PV.eqb]
  | .int a, y, h => by cases y <;> simp_all [PV.eqb]
  | .str a, y, h => by cases y <;> simp_all [PV.eqb]
  | .tup a, y, h => by
    cases y with
    | tup b => rw [PV.eqb] at h; rw [PV.of_eqbs h]
    | _ => simp [PV.eqb] at h
  | .ktp a, y, h => by
    cases y with
    | ktp b => rw [PV.eqb] at h; rw [PV.of_eqbs h]
    | _ => simp [PV.eqb] at h
  | .rls a, y, h => by
    cases y with
    | rls b => rw [PV.eqb] at h; rw [PV.of_eqbs h]
    | _ => simp [PV.eqb] at h
  | .ref a, y, h => by cases y <;> simp_all [PV.eqb]
  | .ty a, y, h => by cases y <;> simp_all [PV.eqb]
theorem PV.of_eqbs : ∀ {x y : List PV}, PV.eqbs x y = true → x = y
  | [], y, h => by cases y <;> first | rfl | simp [PV.eqbs] at h
  | x :: xs, y, h => by
    cases y with
    | nil => simp [PV.eqbs] at h
    | cons y ys =>
      rw [PV.eqbs, Bool.and_eq_true] at h
      rw [PV.of_eqb h.1, PV.of_eqbs h.2]
end
mutual
theorem PV.eqb_refl : ∀ x : PV, PV.eqb x x = true
  | .non => rfl
  | .bl a => by simp [PV.eqb]
  | .int a => by simp [PV.eqb]
  | .str a => by simp [PV.eqb]
  | .tup a => by rw [PV.eqb]; exact PV.eqbs_refl a
  | .ktp a => by rw [PV.eqb]; exact PV.eqbs_refl a
  | .rls a => by rw [PV.eqb]; exact PV.eqbs_refl a
  | .ref a => by simp [PV.eqb]
  | .ty a => by simp [PV.eqb]
theorem PV.eqbs_refl : ∀ x : List PV, PV.eqbs x x = true
  | [] => rfl
  | x :: xs => by rw [PV.eqbs, PV.eqb_refl x, PV.eqbs_refl xs]; rfl
end
instance : DecidableEq PV := fun x y => if h : PV.eqb x y = true then isTrue (PV.of_eqb h) else isFalse fun e => h (by rw [e]; exact PV.eqb_refl y)
/-- what stands at an id -/
inductive PO where
  | lst (xs : List PV)
  | dct (kvs : List (PV × PV)) (lk : Bool)
  | ins (c : Nat) (fs : List (Str × PV))
  deriving Inhabited
structure Sto where
  objs : Array PO
  deriving Inhabited
def Sto.get (s : Sto) (n : Nat) : Option PO := s.objs[n]?
def Sto.set (s : Sto) (n : Nat) (o : PO) : Sto := ⟨s.objs.setIfInBounds n o⟩
def Sto.nx (s : Sto) : Nat := s.objs.size
def Sto.add (s : Sto) (o : PO) : Sto := ⟨s.objs.push o⟩
theorem Sto.get_set (s : Sto) (n m : Nat) (o : PO) : (s.set n o).get m = if m = n then (s.get n).map (fun _ => o) else s.get m := by
  unfold Sto.get Sto.set
  simp only [Array.getElem?_setIfInBounds]
  by_cases h : n = m
  · subst h
    simp only [if_pos]
    by_cases hs : n < s.objs.size
    · simp [hs]
    · simp [hs]
  · rw [if_neg h, if_neg (fun e => h e.symm)]
theorem Sto.get_add (s : Sto) (m : Nat) (o : PO) : (s.add o).get m = if m = s.nx then some o else s.get m := by
  unfold Sto.get Sto.add Sto.nx
  exact Array.getElem?_push
theorem Sto.nx_set (s : Sto) (n : Nat) (o : PO) : (s.set n o).nx = s.nx := by simp [Sto.nx, Sto.set]
theorem Sto.nx_add (s : Sto) (o : PO) : (s.add o).nx = s.nx + 1 := by simp [Sto.nx, Sto.add]
theorem Sto.lt_nx {s : Sto} {n : Nat} {o : PO} (h : s.get n = some o) : n < s.nx := by
  unfold Sto.get at h
  obtain ⟨q, _⟩ := Array.getElem?_eq_some_iff.mp h
  exact q

abbrev Rho := Nat → Option Addr
def Le (ρ ρ' : Rho) : Prop := ∀ n a, ρ n = some a → ρ' n = some a
theorem Le.refl (ρ : Rho) : Le ρ ρ := fun _ _ h => h
theorem Le.trans {ρ ρ1 ρ2 : Rho} (a : Le ρ ρ1) (b : Le ρ1 ρ2) : Le ρ ρ2 := fun n x h => b n x (a n x h)

/-- a list that is only read: frozen, or of the module -/
def RoL (K : PySem.W.Frag) (H : Hp) (a : Addr) (xs : List V) : Prop :=
  (∃ o, H a = some (.frz o (.lst xs))) ∨
    ∃ (o : Obj) (its : Array Value) (n : Nat), K.lookup a = some o ∧ o.cls = .type "list" ∧ o.dict = none ∧ o.data = .seq its n ∧ its.size ≤ sizeLine ∧ Vals xs its.toList
theorem RoL.sql {K : PySem.W.Frag} {H : Hp} {a : Addr} {xs : List V} (h : RoL K H a xs) : SqL K H a xs := by
  rcases h with h | h
  · exact .inl (.inr h)
  · exact .inr h

/-- a tuple of the module -/
def KTup (K : PySem.W.Frag) (a : Addr) (xs : List V) : Prop := ∃ (o : Obj) (its : Array Value) (n : Nat), K.lookup a = some o ∧ o.cls = .type "tuple" ∧ o.data = .seq its n ∧ its.size ≤ sizeLine ∧ Vals xs its.toList
theorem KTup.sq {K : PySem.W.Frag} {H : Hp} {a : Addr} {xs : List V} (h : KTup K a xs) : SqT K H a xs := .inr h
mutual
inductive RelP (K : PySem.W.Frag) (ρ : Rho) (H : Hp) : PV → V → Prop
  | non : RelP K ρ H .non .non
  | bl (b : Bool) : RelP K ρ H (.bl b) (.bl b)
  | int (i : Int) : RelP K ρ H (.int i) (.int i)
  | str (x : Str) : RelP K ρ H (.str x) (.str x)
  | tup {xs : List PV} {a : Addr} {vs : List V} (h : H a = some (.tup vs)) (r : RelPs K ρ H xs vs) : RelP K ρ H (.tup xs) (.ref a)
  | ktp {xs : List PV} {a : Addr} {vs : List V} (h : KTup K a vs) (r : RelPs K ρ H xs vs) : RelP K ρ H (.ktp xs) (.ref a)
  | rls {xs : List PV} {a : Addr} {vs : List V} (h : RoL K H a vs) (r : RelPs K ρ H xs vs) : RelP K ρ H (.rls xs) (.ref a)
  | ref {n : Nat} {a : Addr} (h : ρ n = some a) : RelP K ρ H (.ref n) (.ref a)
  | ty (n : String) : RelP K ρ H (.ty n) (.ty n)
inductive RelPs (K : PySem.W.Frag) (ρ : Rho) (H : Hp) : List PV → List V → Prop
  | nil : RelPs K ρ H [] []
  | cons {x : PV} {v : V} {xs : List PV} {vs : List V} (h : RelP K ρ H x v) (t : RelPs K ρ H xs vs) : RelPs K ρ H (x :: xs) (v :: vs)
end

/-- what tuples and read-only lists there are stays -/
structure ExtW (K : PySem.W.Frag) (H H' : Hp) : Prop where
  tup : ∀ a vs, H a = some (.tup vs) → H' a = some (.tup vs)
  rol : ∀ a vs, RoL K H a vs → RoL K H' a vs
/-- .. and what is frozen -/
structure Ext (K : PySem.W.Frag) (H H' : Hp) : Prop where
  w : ExtW K H H'
  frz : ∀ a o u, H a = some (.frz o u) → H' a = some (.frz o u)
theorem ExtW.refl {K : PySem.W.Frag} (H : Hp) : ExtW K H H := ⟨fun _ _ h => h, fun _ _ h => h⟩
theorem ExtW.trans {K : PySem.W.Frag} {H H1 H2 : Hp} (a : ExtW K H H1) (b : ExtW K H1 H2) : ExtW K H H2 := ⟨fun x v h => b.tup x v (a.tup x v h), fun x v h => b.rol x v (a.rol x v h)⟩
theorem Ext.refl {K : PySem.W.Frag} (H : Hp) : Ext K H H := ⟨ExtW.refl H, fun _ _ _ h => h⟩
theorem Ext.trans {K : PySem.W.Frag} {H H1 H2 : Hp} (a : Ext K H H1) (b : Ext K H1 H2) : Ext K H H2 := ⟨a.w.trans b.w, fun x o u h => b.frz x o u (a.frz x o u h)⟩
theorem ExtW.new {K : PySem.W.Frag} {H : Hp} {p : Addr} {o : HO} (h : H p = none) : ExtW K H (upd H p o) where
  tup := fun a vs q => by rw [upd_ne (ne_of_none q h)]; exact q
  rol := fun a vs q => by
    rcases q with ⟨z, q⟩ | q
    · exact .inl ⟨z, by rw [upd_ne (ne_of_none q h)]; exact q⟩
    · exact .inr q
theorem Ext.new {K : PySem.W.Frag} {H : Hp} {p : Addr} {o : HO} (h : H p = none) : Ext K H (upd H p o) := ⟨ExtW.new h, fun a z u q => by rw [upd_ne (ne_of_none q h)]; exact q⟩
/-- a list, a dict (frozen or not), an instance -/
def NotSeq : HO → Prop
  | .lst _ => True
  | .dK _ => True
  | .dT _ => True
  | .ins _ _ _ => True
  | .frz _ (.dK _) => True
  | .frz _ (.dT _) => True
  | _ => False
/-- what may be written -/
def Soft : HO → Prop
  | .lst _ => True
  | .dK _ => True
  | .dT _ => True
  | .ins _ _ _ => True
  | _ => False
theorem Soft.notSeq {u : HO} (h : Soft u) : NotSeq u := by
  cases u <;> first | trivial | exact h.elim
theorem ExtW.write {K : PySem.W.Frag} {H : Hp} {p : Addr} {o u : HO} (h : H p = some u) (s : NotSeq u) : ExtW K H (upd H p o) where
  tup := fun a vs q => by
    have ne : a ≠ p := fun e => by
      subst e
      rw [h] at q
      cases q
      exact s
    rw [upd_ne ne]; exact q
  rol := fun a vs q => by
    rcases q with ⟨z, q⟩ | q
    · refine .inl ⟨z, ?_⟩
      have ne : a ≠ p := fun e => by
        subst e
        rw [h] at q
        cases q
        exact s
      rw [upd_ne ne]; exact q
    · exact .inr q
theorem Ext.write {K : PySem.W.Frag} {H : Hp} {p : Addr} {o u : HO} (h : H p = some u) (s : Soft u) : Ext K H (upd H p o) := ⟨ExtW.write h s.notSeq, fun a z w q => by
  have ne : a ≠ p := fun e => by
    subst e
    rw [h] at q
    cases q
    exact s
  rw [upd_ne ne]; exact q⟩

mutual
theorem RelP.monoW {K : PySem.W.Frag} {ρ ρ' : Rho} {H H' : Hp} (l : Le ρ ρ') (e : ExtW K H H') : ∀ {x : PV} {v : V}, RelP K ρ H x v → RelP K ρ' H' x v
  | _, _, .non => .non
  | _, _, .bl b => .bl b
  | _, _, .int i => .int i
  | _, _, .str x => .str x
  | _, _, .tup h r => .tup (e.tup _ _ h) (RelPs.monoW l e r)
  | _, _, .ktp h r => .ktp h (RelPs.monoW l e r)
  | _, _, .rls h r => .rls (e.rol _ _ h) (RelPs.monoW l e r)
  | _, _, .ref h => .ref (l _ _ h)
  | _, _, .ty v => .ty v
theorem RelPs.monoW {K : PySem.W.Frag} {ρ ρ' : Rho} {H H' : Hp} (l : Le ρ ρ') (e : ExtW K H H') : ∀ {x : List PV} {v : List V}, RelPs K ρ H x v → RelPs K ρ' H' x v
  | _, _, .nil => .nil
  | _, _, .cons h t => .cons (RelP.monoW l e h) (RelPs.monoW l e t)
end
theorem RelP.mono {K : PySem.W.Frag} {ρ ρ' : Rho} {H H' : Hp} (l : Le ρ ρ') (e : Ext K H H') {x : PV} {v : V} (h : RelP K ρ H x v) : RelP K ρ' H' x v := h.monoW l e.w
theorem RelPs.mono {K : PySem.W.Frag} {ρ ρ' : Rho} {H H' : Hp} (l : Le ρ ρ') (e : Ext K H H') {x : List PV} {v : List V} (h : RelPs K ρ H x v) : RelPs K ρ' H' x v := h.monoW l e.w
section
variable {K : PySem.W.Frag} {ρ ρ' : Rho} {H H' : Hp}
theorem RelPs.length : ∀ {xs : List PV} {vs : List V}, RelPs K ρ H xs vs → xs.length = vs.length
  | _, _, .nil => rfl
  | _, _, .cons _ t => by rw [List.length_cons, List.length_cons, RelPs.length t]
theorem RelPs.append : ∀ {xs ys : List PV} {vs ws : List V}, RelPs K ρ H xs vs → RelPs K ρ H ys ws → RelPs K ρ H (xs ++ ys) (vs ++ ws)
  | _, _, _, _, .nil, s => s
  | _, _, _, _, .cons h t, s => .cons h (RelPs.append t s)
theorem RelPs.get : ∀ {xs : List PV} {vs : List V} {i : Nat} {x : PV}, RelPs K ρ H xs vs → xs[i]? = some x → ∃ v, vs[i]? = some v ∧ RelP K ρ H x v
  | _, _, i, x, .nil, e => by simp at e
  | _, _, 0, x, .cons h t, e => by
    simp at e
    subst e
    exact ⟨_, rfl, h⟩
  | _, _, i + 1, x, .cons h t, e => by
    obtain ⟨v, h1, h2⟩ := RelPs.get (i := i) (x := x) t (by simpa using e)
    exact ⟨v, by simpa using h1, h2⟩
theorem RelPs.set : ∀ {xs : List PV} {vs : List V} (i : Nat) {x : PV} {v : V}, RelPs K ρ H xs vs → RelP K ρ H x v → RelPs K ρ H (xs.set i x) (vs.set i v)
  | _, _, _, _, _, .nil, _ => .nil
  | _, _, 0, _, _, .cons _ t, q => .cons q t
  | _, _, i + 1, _, _, .cons h t, q => .cons h (RelPs.set i t q)
theorem RelPs.take : ∀ {xs : List PV} {vs : List V} (n : Nat), RelPs K ρ H xs vs → RelPs K ρ H (xs.take n) (vs.take n)
  | _, _, 0, _ => by simp; exact .nil
  | _, _, n + 1, .nil => .nil
  | _, _, n + 1, .cons h t => by simp; exact .cons h (RelPs.take n t)
theorem RelPs.drop : ∀ {xs : List PV} {vs : List V} (n : Nat), RelPs K ρ H xs vs → RelPs K ρ H (xs.drop n) (vs.drop n)
  | _, _, 0, h => by simpa using h
  | _, _, n + 1, .nil => .nil
  | _, _, n + 1, .cons h t => by simp; exact RelPs.drop n t
end

abbrev Sl := List (Option PV)
def RelO' (K : PySem.W.Frag) (ρ : Rho) (H : Hp) : Option PV → Option V → Prop
  | none, _ => True
  | some x, some v => RelP K ρ H x v
  | some _, none => False
/-- what is known of the slots: less may be known than there is -/
def RelS (K : PySem.W.Frag) (ρ : Rho) (H : Hp) (σp : Sl) (σ : L2.St) : Prop := σp.length = σ.length ∧ ∀ (i : Nat) (x : PV), σp[i]? = some (some x) → ∃ v, σ[i]? = some (some v) ∧ RelP K ρ H x v
section
variable {K : PySem.W.Frag} {ρ ρ' : Rho} {H H' : Hp} {σp : Sl} {σ : L2.St}
theorem RelS.monoW (l : Le ρ ρ') (e : ExtW K H H') (h : RelS K ρ H σp σ) : RelS K ρ' H' σp σ := ⟨h.1, fun i x q => let ⟨v, a, b⟩ := h.2 i x q; ⟨v, a, b.monoW l e⟩⟩
theorem RelS.mono (l : Le ρ ρ') (e : Ext K H H') (h : RelS K ρ H σp σ) : RelS K ρ' H' σp σ := h.monoW l e.w
theorem RelS.set (h : RelS K ρ H σp σ) (i : Nat) {x : PV} {v : V} (r : RelP K ρ H x v) : RelS K ρ H (σp.set i (some x)) (σ.set i (some v)) := by
  refine ⟨by simp [h.1], fun j y q => ?_⟩
  by_cases hj : i = j
  · subst hj
    have hl : i < σp.length := by
      by_cases hl : i < σp.length
      · exact hl
      · rw [List.getElem?_eq_none (by simp; omega)] at q; cases q
    rw [List.getElem?_set_self hl] at q
    cases q
    exact ⟨v, List.getElem?_set_self (by rw [← h.1]; exact hl), r⟩
  · rw [List.getElem?_set_ne hj] at q
    obtain ⟨w, a, b⟩ := h.2 j y q
    exact ⟨w, by rw [List.getElem?_set_ne hj]; exact a, b⟩
end

/-- the classes: where they stand, and which attributes their instances may have -/
structure CT where
  ad : Nat → Addr
  fld : Nat → List Str
  tabs : List (Addr × Str)
inductive RelFs (K : PySem.W.Frag) (ρ : Rho) (H : Hp) : List (Str × PV) → List (Str × V) → Prop
  | nil : RelFs K ρ H [] []
  | cons {f : Str} {x : PV} {v : V} {xs : List (Str × PV)} {vs : List (Str × V)} (h : RelP K ρ H x v) (t : RelFs K ρ H xs vs) : RelFs K ρ H ((f, x) :: xs) ((f, v) :: vs)
/-- a key of a dict: an int or a text, or a tuple of such -/
def keyK : PV → Option Key
  | .int i => some (.inl i)
  | .str x => some (.inr x)
  | _ => none
def keysK : List PV → Option (List Key)
  | [] => some []
  | x :: xs => match keyK x, keysK xs with
    | some k, some ks => some (k :: ks)
    | _, _ => none
def keyT : PV → Option (List Key)
  | .tup xs => keysK xs
  | _ => none
inductive RelDk (K : PySem.W.Frag) (ρ : Rho) (H : Hp) : List (PV × PV) → List (Key × V) → Prop
  | nil : RelDk K ρ H [] []
  | cons {x y : PV} {k : Key} {v : V} {xs : List (PV × PV)} {vs : List (Key × V)} (hk : keyK x = some k) (h : RelP K ρ H y v) (t : RelDk K ρ H xs vs) : RelDk K ρ H ((x, y) :: xs) ((k, v) :: vs)
inductive RelDt (K : PySem.W.Frag) (ρ : Rho) (H : Hp) : List (PV × PV) → List (List Key × V) → Prop
  | nil : RelDt K ρ H [] []
  | cons {x y : PV} {k : List Key} {v : V} {xs : List (PV × PV)} {vs : List (List Key × V)} (hk : keyT x = some k) (h : RelP K ρ H y v) (t : RelDt K ρ H xs vs) : RelDt K ρ H ((x, y) :: xs) ((k, v) :: vs)
/-- a dict by its pairs -/
def RelD (K : PySem.W.Frag) (ρ : Rho) (H : Hp) (kvs : List (PV × PV)) (u : HO) : Prop := (∃ vs, u = .dK vs ∧ RelDk K ρ H kvs vs) ∨ (kvs ≠ [] ∧ ∃ vs, u = .dT vs ∧ RelDt K ρ H kvs vs)
def ObjSim (K : PySem.W.Frag) (cl : CT) (ρ : Rho) (H : Hp) (a : Addr) : PO → Prop
  | .lst xs => ∃ vs, H a = some (.lst vs) ∧ RelPs K ρ H xs vs
  | .dct kvs lk => ∃ u, RelD K ρ H kvs u ∧ if lk = true then ∃ o, H a = some (.frz o u) else H a = some u
  | .ins c fs => ∃ dx vs, H a = some (.ins (cl.ad c) dx vs) ∧ RelFs K ρ H fs vs ∧ ∀ p ∈ fs, p.1 ∈ cl.fld c
structure Sim (K : PySem.W.Frag) (cl : CT) (ρ : Rho) (st : Sto) (H : Hp) : Prop where
  inj : ∀ m n a, ρ m = some a → ρ n = some a → m = n
  dom : ∀ n a, ρ n = some a → n < st.nx
  obj : ∀ n o, st.get n = some o → ∃ a, ρ n = some a ∧ ObjSim K cl ρ H a o
  tab : LamX.Tabs cl.tabs H
theorem tabs_write {T : List (Addr × Str)} {H : Hp} {a : Addr} {u u' : HO} (t : LamX.Tabs T H) (h : H a = some u) (s : NotSeq u) : LamX.Tabs T (upd H a u') := fun p hp => by
  obtain ⟨ps, h1, h2, h3⟩ := t p hp
  refine ⟨ps, ?_, h2, fun pos cv hc => ?_⟩
  · rw [upd_ne]
    · exact h1
    · intro e
      rw [e, h] at h1
      cases h1
      exact s
  · obtain ⟨c, e1, e2⟩ := h3 pos cv hc
    refine ⟨c, e1, ?_⟩
    rw [upd_ne]
    · exact e2
    · intro e
      rw [e, h] at e2
      have e3 : u = LamX.CodeO a p.2 := by rw [← e]; exact (Option.some.inj e2).trans (by rw [e])
      rw [e3] at s
      exact s
theorem tabs_new {T : List (Addr × Str)} {H : Hp} {a : Addr} {u : HO} (t : LamX.Tabs T H) (h : H a = none) : LamX.Tabs T (upd H a u) := t.ext fun b o q => by rw [upd_ne (ne_of_none q h)]; exact q
section
variable {K : PySem.W.Frag} {cl : CT} {ρ ρ' : Rho} {H H' : Hp} {st : Sto} {a : Addr} {o : PO}
theorem RelFs.monoW (l : Le ρ ρ') (e : ExtW K H H') {xs : List (Str × PV)} {vs : List (Str × V)} (h : RelFs K ρ H xs vs) : RelFs K ρ' H' xs vs := by
  induction h with
  | nil => exact .nil
  | cons h _ ih => exact .cons (h.monoW l e) ih
theorem RelDk.monoW (l : Le ρ ρ') (e : ExtW K H H') {xs : List (PV × PV)} {vs : List (Key × V)} (h : RelDk K ρ H xs vs) : RelDk K ρ' H' xs vs := by
  induction h with
  | nil => exact .nil
  | cons hk h _ ih => exact .cons hk (h.monoW l e) ih
theorem RelDt.monoW (l : Le ρ ρ') (e : ExtW K H H') {xs : List (PV × PV)} {vs : List (List Key × V)} (h : RelDt K ρ H xs vs) : RelDt K ρ' H' xs vs := by
  induction h with
  | nil => exact .nil
  | cons hk h _ ih => exact .cons hk (h.monoW l e) ih
theorem RelFs.mono (l : Le ρ ρ') (e : Ext K H H') {xs : List (Str × PV)} {vs : List (Str × V)} (h : RelFs K ρ H xs vs) : RelFs K ρ' H' xs vs := h.monoW l e.w
theorem RelDk.mono (l : Le ρ ρ') (e : Ext K H H') {xs : List (PV × PV)} {vs : List (Key × V)} (h : RelDk K ρ H xs vs) : RelDk K ρ' H' xs vs := h.monoW l e.w
theorem RelDt.mono (l : Le ρ ρ') (e : Ext K H H') {xs : List (PV × PV)} {vs : List (List Key × V)} (h : RelDt K ρ H xs vs) : RelDt K ρ' H' xs vs := h.monoW l e.w
theorem RelD.monoW (l : Le ρ ρ') (e : ExtW K H H') {kvs : List (PV × PV)} {u : HO} (h : RelD K ρ H kvs u) : RelD K ρ' H' kvs u := by
  rcases h with ⟨vs, q, r⟩ | ⟨ne, vs, q, r⟩
  · exact .inl ⟨vs, q, r.monoW l e⟩
  · exact .inr ⟨ne, vs, q, r.monoW l e⟩
theorem RelD.mono (l : Le ρ ρ') (e : Ext K H H') {kvs : List (PV × PV)} {u : HO} (h : RelD K ρ H kvs u) : RelD K ρ' H' kvs u := h.monoW l e.w
theorem ObjSim.mono (l : Le ρ ρ') (e : ExtW K H H') (ha : H' a = H a) (h : ObjSim K cl ρ H a o) : ObjSim K cl ρ' H' a o := by
  cases o with
  | lst xs => obtain ⟨vs, q, r⟩ := h; exact ⟨vs, ha.trans q, r.monoW l e⟩
  | dct kvs lk =>
    obtain ⟨u, r, q⟩ := h
    refine ⟨u, r.monoW l e, ?_⟩
    split
    · next hl => rw [if_pos hl] at q; obtain ⟨z, q⟩ := q; exact ⟨z, ha.trans q⟩
    · next hl => rw [if_neg hl] at q; exact ha.trans q
  | ins c fs => obtain ⟨dx, vs, q, r, z⟩ := h; exact ⟨dx, vs, ha.trans q, r.monoW l e, z⟩
theorem ObjSim.some (h : ObjSim K cl ρ H a o) : ∃ u, H a = some u := by
  cases o with
  | lst xs => obtain ⟨vs, q, r⟩ := h; exact ⟨_, q⟩
  | dct kvs lk =>
    obtain ⟨u, r, q⟩ := h
    split at q
    · obtain ⟨z, q⟩ := q; exact ⟨_, q⟩
    · exact ⟨_, q⟩
  | ins c fs => obtain ⟨dx, vs, q, r⟩ := h; exact ⟨_, q⟩
theorem Sim.rho (s : Sim K cl ρ st H) {n : Nat} (h : n < st.nx) : ∃ a, ρ n = some a := by
  have : ∃ o, st.get n = some o := by
    unfold Sto.get
    exact ⟨st.objs[n]'h, Array.getElem?_eq_getElem h⟩
  obtain ⟨o, e⟩ := this
  obtain ⟨a, q, _⟩ := s.obj n o e
  exact ⟨a, q⟩
theorem Sim.at_ (s : Sim K cl ρ st H) {n : Nat} (hr : ρ n = some a) (e : st.get n = some o) : ObjSim K cl ρ H a o := by
  obtain ⟨b, q, r⟩ := s.obj n o e
  rw [hr] at q
  cases q
  exact r
theorem Sim.there (s : Sim K cl ρ st H) {n : Nat} (hr : ρ n = some a) : ∃ u, H a = some u := by
  have h := s.dom n a hr
  have : ∃ o, st.get n = some o := by
    unfold Sto.get
    exact ⟨st.objs[n]'h, Array.getElem?_eq_getElem h⟩
  obtain ⟨o, e⟩ := this
  exact (s.at_ hr e).some
def Rho.put (ρ : Rho) (n : Nat) (a : Addr) : Rho := fun m => if m = n then some a else ρ m
theorem Rho.put_same {ρ : Rho} {n : Nat} {a : Addr} : ρ.put n a n = some a := if_pos rfl
theorem Sim.le_put (s : Sim K cl ρ st H) (p : Addr) : Le ρ (ρ.put st.nx p) := fun n a h => by
  unfold Rho.put
  rw [if_neg (Nat.ne_of_lt (s.dom n a h))]
  exact h
/-- the heap grew or changed at untracked places alone: nothing of the store's addresses changed -/
theorem Sim.keep (s : Sim K cl ρ st H) (e : ExtW K H H') (h : ∀ n a, ρ n = some a → H' a = H a) (t : LamX.Tabs cl.tabs H') : Sim K cl ρ st H' :=
  ⟨s.inj, s.dom, (fun n o q => let ⟨a, r, z⟩ := s.obj n o q; ⟨a, r, z.mono (Le.refl ρ) e (h n a r)⟩), t⟩
/-- a new object -/
theorem Sim.new (s : Sim K cl ρ st H) {p : Addr} {u : HO} (hp : H p = none) (hn : ObjSim K cl (ρ.put st.nx p) (upd H p u) p o) : Sim K cl (ρ.put st.nx p) (st.add o) (upd H p u) := by
  have fresh : ∀ n a, ρ n = some a → a ≠ p := fun n a h e => by
    obtain ⟨u, q⟩ := s.there h
    rw [e, hp] at q
    cases q
  refine ⟨fun m n a h1 h2 => ?_, fun n a h => ?_, fun n q h => ?_, tabs_new s.tab hp⟩
  · unfold Rho.put at h1 h2
    split at h1
    · next e1 =>
      cases h1
      split at h2
      · next e2 => exact e1.trans e2.symm
      · next e2 => exact absurd rfl (fresh _ _ h2)
    · next e1 =>
      split at h2
      · next e2 =>
        cases h2
        exact absurd rfl (fresh _ _ h1)
      · next e2 => exact s.inj _ _ _ h1 h2
  · rw [Sto.nx_add]
    unfold Rho.put at h
    split at h
    · next e => omega
    · next e => exact Nat.lt_succ_of_lt (s.dom n a h)
  · rw [Sto.get_add] at h
    split at h
    · next e =>
      cases h
      exact ⟨p, by rw [e]; exact Rho.put_same, hn⟩
    · next e =>
      obtain ⟨a, r, z⟩ := s.obj n q h
      exact ⟨a, s.le_put p n a r, z.mono (s.le_put p) (ExtW.new hp) (upd_ne (fresh n a r))⟩
/-- an object changed -/
theorem Sim.write (s : Sim K cl ρ st H) {n : Nat} {u u' : HO} (hr : ρ n = some a) (hu : H a = some u) (sf : NotSeq u) (hn : ObjSim K cl ρ (upd H a u') a o) : Sim K cl ρ (st.set n o) (upd H a u') := by
  refine ⟨s.inj, fun m b h => by rw [Sto.nx_set]; exact s.dom m b h, fun m q h => ?_, tabs_write s.tab hu sf⟩
  rw [Sto.get_set] at h
  split at h
  · next e =>
    subst e
    obtain ⟨z, hz, e2⟩ := Option.map_eq_some_iff.mp h
    subst e2
    exact ⟨a, hr, hn⟩
  · next e =>
    obtain ⟨b, r, z⟩ := s.obj m q h
    have ne : b ≠ a := fun e2 => e (s.inj m n a (e2 ▸ r) hr)
    exact ⟨b, r, z.mono (Le.refl ρ) (ExtW.write hu sf) (upd_ne ne)⟩
end

structure Exn where
  c : Nat
  fs : List (Str × PV)
inductive Res (α : Type) where
  | ok (a : α) (s : Sto)
  | err (e : Exn) (s : Sto)
  | stuck
def Res.bind {α β : Type} (r : Res α) (k : α → Sto → Res β) : Res β := match r with
  | .ok a s => k a s
  | .err e s => .err e s
  | .stuck => .stuck
def ExnRel (K : PySem.W.Frag) (cl : CT) (ρ : Rho) (H : Hp) (e : Exn) (C : Value) (d : Option Addr) : Prop :=
  C = .ref (cl.ad e.c) ∧ ((e.fs = [] ∧ d = none) ∨ ∃ dd vs, d = some dd ∧ H dd = some (.xd vs) ∧ RelFs K ρ H e.fs vs)
/-- what is wanted of a result, from ρ and H on -/
def Res.post {α : Type} (K : PySem.W.Frag) (cl : CT) (ρ : Rho) (H : Hp) (r : Res α) (P : α → Sto → Rho → Hp → Prop) (E : Value → Option Addr → Hp → Prop) : Prop := match r with
  | .ok a st => ∀ ρ' H', Le ρ ρ' → Ext K H H' → Sim K cl ρ' st H' → P a st ρ' H'
  | .err e st => ∀ ρ' H' C d, Le ρ ρ' → Ext K H H' → Sim K cl ρ' st H' → ExnRel K cl ρ' H' e C d → E C d H'
  | .stuck => False
section
variable {α β : Type} {K : PySem.W.Frag} {cl : CT} {ρ ρ' : Rho} {H H' : Hp} {st : Sto}
theorem Res.post.mono {r : Res α} {P : α → Sto → Rho → Hp → Prop} {E : Value → Option Addr → Hp → Prop} (h : r.post K cl ρ H P E) (l : Le ρ ρ') (e : Ext K H H') : r.post K cl ρ' H' P E := by
  cases r with
  | ok a st => exact fun ρ2 H2 l2 e2 s2 => h ρ2 H2 (l.trans l2) (e.trans e2) s2
  | err x st => exact fun ρ2 H2 C d l2 e2 s2 r2 => h ρ2 H2 C d (l.trans l2) (e.trans e2) s2 r2
  | stuck => exact h
theorem Res.post.bind {r : Res α} {k : α → Sto → Res β} {P : β → Sto → Rho → Hp → Prop} {E : Value → Option Addr → Hp → Prop} (h : (r.bind k).post K cl ρ H P E) :
    r.post K cl ρ H (fun a st' ρ' H' => (k a st').post K cl ρ' H' P E) E := by
  cases r with
  | ok a st => exact fun ρ2 H2 l2 e2 s2 => Res.post.mono h l2 e2
  | err x st => exact h
  | stuck => exact h
theorem Res.post.imp {r : Res α} {P P' : α → Sto → Rho → Hp → Prop} {E E' : Value → Option Addr → Hp → Prop} (h : r.post K cl ρ H P E)
    (hp : ∀ a st' ρ' H', Le ρ ρ' → Ext K H H' → Sim K cl ρ' st' H' → P a st' ρ' H' → P' a st' ρ' H') (he : ∀ C d H', E C d H' → E' C d H') : r.post K cl ρ H P' E' := by
  cases r with
  | ok a st => exact fun ρ2 H2 l2 e2 s2 => hp _ _ _ _ l2 e2 s2 (h ρ2 H2 l2 e2 s2)
  | err x st => exact fun ρ2 H2 C d l2 e2 s2 r2 => he _ _ _ (h ρ2 H2 C d l2 e2 s2 r2)
  | stuck => exact h
/-- as it stands -/
theorem Res.post.now {a : α} {P : α → Sto → Rho → Hp → Prop} {E : Value → Option Addr → Hp → Prop} (s : Sim K cl ρ st H) (h : (Res.ok a st).post K cl ρ H P E) : P a st ρ H := h ρ H (Le.refl ρ) (Ext.refl H) s
end

abbrev ME := Sl → Sto → Res PV
abbrev MEs := Sl → Sto → Res (List PV)
abbrev MT := Sl → Sto → Res Bool
/-- an expression's reading by a pure function; W: what is wanted of an exception -/
def tM (K : PySem.W.Frag) (cl : CT) (W : WX) (f : ME) : TE := fun σ H Q => ∃ ρ st σp, Sim K cl ρ st H ∧ RelS K ρ H σp σ ∧
  (f σp st).post K cl ρ H (fun v _ ρ' H' => ∀ w, RelP K ρ' H' v w → Q w H') fun C d H' => W C d σ H'
def tMT (K : PySem.W.Frag) (cl : CT) (W : WX) (f : MT) : TT := fun σ H Q => ∃ ρ st σp, Sim K cl ρ st H ∧ RelS K ρ H σp σ ∧
  (f σp st).post K cl ρ H (fun b _ _ H' => Q b H') fun C d H' => W C d σ H'
def tMA (K : PySem.W.Frag) (cl : CT) (W : WX) (f : MEs) : TA := fun σ H Q => ∃ ρ st σp, Sim K cl ρ st H ∧ RelS K ρ H σp σ ∧
  (f σp st).post K cl ρ H (fun vs _ ρ' H' => ∀ ws, RelPs K ρ' H' vs ws → Q ws H') fun C d H' => W C d σ H'
theorem _root_.L2.PE.imp {X : Cx} {e : Expr} {t t' : TE} (h : PE X e t) (i : ∀ σ H Q, t' σ H Q → t σ H Q) : PE X e t' := ⟨fun pins s σ H Q I q => h.run pins s σ H Q I (i σ H Q q)⟩
theorem _root_.L2.PT.imp {X : Cx} {e : Expr} {t t' : TT} (h : PT X e t) (i : ∀ σ H Q, t' σ H Q → t σ H Q) : PT X e t' := ⟨fun pins s σ H Q I q => h.run pins s σ H Q I (i σ H Q q)⟩
theorem _root_.L2.PA.imp {X : Cx} {e : List Expr} {t t' : TA} (h : PA X e t) (i : ∀ σ H Q, t' σ H Q → t σ H Q) : PA X e t' := ⟨fun pos pins s σ H Q I q => h.run pos pins s σ H Q I (i σ H Q q)⟩
theorem _root_.L2.PS.imp {X : Cx} {e : Stmt} {t t' : TS} (h : PS X e t) (i : ∀ D σ H, t' D σ H → t D σ H) : PS X e t' := ⟨fun pins s σ H D I q => h.run pins s σ H D I (i D σ H q)⟩
theorem _root_.L2.PSs.imp {X : Cx} {e : List Stmt} {t t' : TS} (h : PSs X e t) (i : ∀ D σ H, t' D σ H → t D σ H) : PSs X e t' := ⟨fun pins s σ H D I q => h.run pins s σ H D I (i D σ H q)⟩

section
variable {X : Cx} {cl : CT} {W : WX} {a b c : Expr} {fa fb : ME} {pos : Pos}

def mVar (i : Nat) : ME := fun σ st => match σ[i]? with
  | some (some v) => .ok v st
  | _ => .stuck
def mC (v : PV) : ME := fun _ st => .ok v st
theorem me_var (i : Nat) {x : Str} {pos : Pos} (hN : X.N[i]? = some x := by rfl) (hv : Vis X.env.scope x := by first | exact Or.inl rfl | exact Or.inr (Or.inl rfl) | exact Or.inr (Or.inr rfl)) (hd : (x == ("__debug__" : Str)) = false := by decide)
    (hcd : (x == ("__classdict__" : Str)) = false := by decide) : PE X (.Name x pos) (tM X.K cl W (mVar i)) := by
  refine (pe_var hN hv hd hcd).imp fun σ H Q ⟨ρ, st, σp, s, r, h⟩ => ?_
  unfold mVar at h
  split at h
  · next v e =>
    obtain ⟨w, h1, h2⟩ := r.2 i v e
    exact ⟨w, h1, h.now s w h2⟩
  · exact h.elim
theorem me_c {v : PV} {w : V} (h : PE X a (tC w)) (r : ∀ ρ H, RelP X.K ρ H v w) : PE X a (tM X.K cl W (mC v)) :=
  h.imp fun σ H Q ⟨ρ, st, σp, s, _, h⟩ => h.now s w (r ρ H)
theorem me_int {i j pos} : PE X (.Constant (.int i) j pos) (tM X.K cl W (mC (.int i))) := me_c pe_int fun _ _ => .int i
theorem me_bl {i j pos} : PE X (.Constant (.bool i) j pos) (tM X.K cl W (mC (.bl i))) := me_c pe_bl fun _ _ => .bl i
theorem me_non {j pos} : PE X (.Constant .none j pos) (tM X.K cl W (mC .non)) := me_c pe_non fun _ _ => .non
theorem me_str {x j pos} : PE X (.Constant (.str x) j pos) (tM X.K cl W (mC (.str x))) := me_c pe_str fun _ _ => .str x

/-- a pure operation that stands for a rule's reading -/
def Op2 (K : PySem.W.Frag) (cl : CT) (r : R2) (f : PV → PV → Sto → Res PV) : Prop :=
  ∀ ρ st H x y v w (Q : VK), Sim K cl ρ st H → RelP K ρ H x v → RelP K ρ H y w → (f x y st).post K cl ρ H (fun z _ ρ' H' => ∀ u, RelP K ρ' H' z u → Q u H') (fun _ _ _ => False) → r v w H Q
def mOp (f : PV → PV → Sto → Res PV) (fa fb : ME) : ME := fun σ st => (fa σ st).bind fun x st1 => (fb σ st1).bind fun y st2 => f x y st2
/-- a pure function that raises nothing -/
def Calm2 (f : PV → PV → Sto → Res PV) : Prop := ∀ x y st e s', f x y st ≠ .err e s'
theorem post_calm {α : Type} {K : PySem.W.Frag} {ρ : Rho} {H : Hp} {r : Res α} {P : α → Sto → Rho → Hp → Prop} {E E' : Value → Option Addr → Hp → Prop} (hc : ∀ e s', r ≠ .err e s') (h : r.post K cl ρ H P E) : r.post K cl ρ H P E' := by
  cases r with
  | ok a s => exact h
  | err e s => exact absurd rfl (hc e s)
  | stuck => exact h
/-- what a result must be for what is wanted of its value -/
abbrev Val (K : PySem.W.Frag) (Q : VK) : PV → Sto → Rho → Hp → Prop := fun z _ ρ' H' => ∀ u, RelP K ρ' H' z u → Q u H'
abbrev NoE : Value → Option Addr → Hp → Prop := fun _ _ _ => False
/-- a two-place operation of the machine by a pure function -/
def OpW (X : Cx) (cl : CT) (f : Value → Value → Sem Value) (g : PV → PV → Sto → Res PV) : Prop :=
  ∀ (pins : List (Addr × Obj)) (s : Shared) (σ : L2.St) (H : Hp) (ρ : Rho) (st : Sto) (x y : PV) (v w : V) (vu wu : Value) (Q : VK), Inv X pins σ H s → Sim X.K cl ρ st H → RelP X.K ρ H x v → RelP X.K ρ H y w → RelV v vu → RelV w wu →
    (g x y st).post X.K cl ρ H (Val X.K Q) NoE → wpAny (model X.prog X.w) X.A (f vu wu) (EP X pins σ Q) X.xe s
theorem OpW.of {f : Value → Value → Sem Value} {r : R2} {g : PV → PV → Sto → Res PV} (ho : OpR X f r) (hm : Op2 X.K cl r g) : OpW X cl f g :=
  fun pins s σ H ρ st x y v w vu wu Q I S rx ry rv rw' h => ho pins s σ H v w vu wu Q I rv rw' (hm ρ st H x y v w Q S rx ry h)
theorem me_op {op : Operator} {g : PV → PV → Sto → Res PV} (ho : OpW X cl (binaryOp op) g) (hc : Calm2 g) (ha : PE X a (tM X.K cl W fa)) (hb : PE X b (tM X.K cl W fb)) : PE X (.BinOp a op b pos) (tM X.K cl W (mOp g fa fb)) := by
  refine ⟨fun pins s σ H Q I ⟨ρ, st, σp, S, rs, h⟩ => wpAny_BinOp ?_⟩
  refine thn (ha.run pins s σ H (fun v H1 => ∃ ρ1 st1 x, Sim X.K cl ρ1 st1 H1 ∧ RelS X.K ρ1 H1 σp σ ∧ RelP X.K ρ1 H1 x v ∧ ((fb σp st1).bind fun y st2 => g x y st2).post X.K cl ρ1 H1 (Val X.K Q) fun C d H' => W C d σ H') I ⟨ρ, st, σp, S, rs, Res.post.imp h.bind (fun x st1 ρ1 H1 l1 e1 s1 h1 v rv => ⟨ρ1, st1, x, s1, rs.mono l1 e1, rv, h1⟩) fun _ _ _ z => z⟩) fun vu s1 ⟨v, H1, I1, r1, ρ1, st1, x, S1, rs1, rx, h1⟩ => ?_
  refine thn (hb.run pins s1 σ H1 (fun w H2 => ∃ ρ2 st2 y, Sim X.K cl ρ2 st2 H2 ∧ RelP X.K ρ2 H2 x v ∧ RelP X.K ρ2 H2 y w ∧ (g x y st2).post X.K cl ρ2 H2 (Val X.K Q) fun C d H' => W C d σ H') I1 ⟨ρ1, st1, σp, S1, rs1, Res.post.imp h1.bind (fun y st2 ρ2 H2 l2 e2 s2 h2 w rw' => ⟨ρ2, st2, y, s2, rx.mono l2 e2, rw', h2⟩) fun _ _ _ z => z⟩) fun wu s2 ⟨w, H2, I2, r2, ρ2, st2, y, S2, rx2, ry2, h2⟩ => ?_
  exact ho pins s2 σ H2 ρ2 st2 x y v w vu wu Q I2 S2 rx2 ry2 r1 r2 (post_calm (hc x y st2) h2)
theorem me_cmp {op : CmpOp} {g : PV → PV → Sto → Res PV} (ho : OpW X cl (compareOp op) g) (hc : Calm2 g) (ha : PE X a (tM X.K cl W fa)) (hb : PE X b (tM X.K cl W fb)) (hk : behindInMarks op b = false := by first | exact nomark _ | rfl) :
    PE X (.Compare a [op] [b] pos) (tM X.K cl W (mOp g fa fb)) := by
  refine ⟨fun pins s σ H Q I ⟨ρ, st, σp, S, rs, h⟩ => wpAny_Compare1 ?_ hk⟩
  refine thn (ha.run pins s σ H (fun v H1 => ∃ ρ1 st1 x, Sim X.K cl ρ1 st1 H1 ∧ RelS X.K ρ1 H1 σp σ ∧ RelP X.K ρ1 H1 x v ∧ ((fb σp st1).bind fun y st2 => g x y st2).post X.K cl ρ1 H1 (Val X.K Q) fun C d H' => W C d σ H') I ⟨ρ, st, σp, S, rs, Res.post.imp h.bind (fun x st1 ρ1 H1 l1 e1 s1 h1 v rv => ⟨ρ1, st1, x, s1, rs.mono l1 e1, rv, h1⟩) fun _ _ _ z => z⟩) fun vu s1 ⟨v, H1, I1, r1, ρ1, st1, x, S1, rs1, rx, h1⟩ => ?_
  refine thn (hb.run pins s1 σ H1 (fun w H2 => ∃ ρ2 st2 y, Sim X.K cl ρ2 st2 H2 ∧ RelP X.K ρ2 H2 x v ∧ RelP X.K ρ2 H2 y w ∧ (g x y st2).post X.K cl ρ2 H2 (Val X.K Q) fun C d H' => W C d σ H') I1 ⟨ρ1, st1, σp, S1, rs1, Res.post.imp h1.bind (fun y st2 ρ2 H2 l2 e2 s2 h2 w rw' => ⟨ρ2, st2, y, s2, rx.mono l2 e2, rw', h2⟩) fun _ _ _ z => z⟩) fun wu s2 ⟨w, H2, I2, r2, ρ2, st2, y, S2, rx2, ry2, h2⟩ => ?_
  exact ho pins s2 σ H2 ρ2 st2 x y v w vu wu Q I2 S2 rx2 ry2 r1 r2 (post_calm (hc x y st2) h2)
end
end MP
set_option Elab.async false
set_option linter.all false
set_option maxRecDepth 100000
set_option maxHeartbeats 2000000
namespace MP
open PySem PySem.Spec L2

section
variable {X : Cx} {cl : CT} {W : WX} {a b c : Expr} {fa fb fc : ME} {pos : Pos}
theorem Op2.or {K : PySem.W.Frag} {r r' : R2} {f : PV → PV → Sto → Res PV} (p : PV → PV → Bool) (g g' : PV → PV → Sto → Res PV) (h : Op2 K cl r g) (h' : Op2 K cl r' g') : Op2 K cl (fun x y H Q => r x y H Q ∨ r' x y H Q) (fun x y st => if p x y then g x y st else g' x y st) := by
  intro ρ st H x y v w Q s rx ry q
  by_cases e : p x y = true
  · simp only [e, if_true] at q
    exact .inl (h ρ st H x y v w Q s rx ry q)
  · simp only [e, Bool.false_eq_true, if_false] at q
    exact .inr (h' ρ st H x y v w Q s rx ry q)

/-- two ints, under a condition -/
def opII (C : Int → Int → Bool) (g : Int → Int → PV) : PV → PV → Sto → Res PV := fun x y st => match x, y with
  | .int i, .int j => if C i j then .ok (g i j) st else .stuck
  | _, _ => .stuck
theorem calm_II {C : Int → Int → Bool} {g : Int → Int → PV} : Calm2 (opII C g) := by
  intro x y st e s' h
  unfold opII at h
  split at h
  · split at h <;> cases h
  · cases h
theorem op2_I {K : PySem.W.Frag} {C : Int → Int → Prop} {C' : Int → Int → Bool} {g : Int → Int → V} {g' : Int → Int → PV} (hC : ∀ i j, C' i j = true → C i j) (hg : ∀ ρ H i j, RelP K ρ H (g' i j) (g i j)) : Op2 K cl (rI C g) (opII C' g') := by
  intro ρ st H x y v w Q s rx ry q
  unfold opII at q
  split at q
  · split at q
    · next i j hc =>
      cases rx
      cases ry
      exact ⟨_, _, rfl, rfl, hC _ _ hc, Res.post.now s q _ (hg ρ H _ _)⟩
    · exact q.elim
  · exact q.elim
theorem op2_I0 {K : PySem.W.Frag} {g : Int → Int → V} {g' : Int → Int → PV} (hg : ∀ ρ H i j, RelP K ρ H (g' i j) (g i j)) : Op2 K cl (rI0 g) (opII (fun _ _ => true) g') := by
  intro ρ st H x y v w Q s rx ry q
  unfold opII at q
  split at q
  · split at q
    · next i j hc =>
      cases rx
      cases ry
      exact ⟨_, _, rfl, rfl, Res.post.now s q _ (hg ρ H _ _)⟩
    · exact q.elim
  · exact q.elim
def cMul (i j : Int) : Bool := (decide (-(2 ^ 64) < i) && decide (i < 2 ^ 64)) || (decide (-(2 ^ 64) < j) && decide (j < 2 ^ 64))
theorem cMul_ok (i j : Int) (h : cMul i j = true) : CMul i j := by
  unfold cMul at h
  simp only [Bool.or_eq_true, Bool.and_eq_true, decide_eq_true_eq] at h
  exact h
def cDiv (_ j : Int) : Bool := decide (0 < j) && decide (j < 1073741824)
theorem cDiv_ok (i j : Int) (h : cDiv i j = true) : CDiv i j := by
  unfold cDiv at h
  simp only [Bool.and_eq_true, decide_eq_true_eq] at h
  exact h
def cPow (i j : Int) : Bool := decide (0 ≤ j) && decide (j ≤ 1000000) && decide (i.natAbs < 2 ^ 64)
theorem cPow_ok (i j : Int) (h : cPow i j = true) : CPow i j := by
  unfold cPow at h
  simp only [Bool.and_eq_true, decide_eq_true_eq] at h
  exact ⟨h.1.1, h.1.2, h.2⟩
/-- i - j -/
def oSub := opII (fun _ _ => true) fun i j => .int (i - j)
def oMulI := opII cMul fun i j => .int (i * j)
def oDiv := opII cDiv fun i j => .int (i / j)
def oMod := opII (fun _ j => decide (0 < j)) fun i j => .int (i % j)
def oPow := opII cPow fun i j => .int (i ^ j.toNat)
def oLt := opII (fun _ _ => true) fun i j => .bl (decide (i < j))
def oLe := opII (fun _ _ => true) fun i j => .bl (decide (i ≤ j))
def oGt := opII (fun _ _ => true) fun i j => .bl (decide (j < i))
def oGe := opII (fun _ _ => true) fun i j => .bl (decide (j ≤ i))
theorem me_sub (ha : PE X a (tM X.K cl W fa)) (hb : PE X b (tM X.K cl W fb)) : PE X (.BinOp a .Sub b pos) (tM X.K cl W (mOp oSub fa fb)) := me_op (OpW.of op_sub (op2_I0 fun _ _ _ _ => .int _)) calm_II ha hb
theorem me_div (ha : PE X a (tM X.K cl W fa)) (hb : PE X b (tM X.K cl W fb)) : PE X (.BinOp a .FloorDiv b pos) (tM X.K cl W (mOp oDiv fa fb)) := me_op (OpW.of op_fdiv (op2_I cDiv_ok fun _ _ _ _ => .int _)) calm_II ha hb
theorem me_mod (ha : PE X a (tM X.K cl W fa)) (hb : PE X b (tM X.K cl W fb)) : PE X (.BinOp a .Mod b pos) (tM X.K cl W (mOp oMod fa fb)) := me_op (OpW.of op_mod (op2_I (fun _ _ h => of_decide_eq_true h) fun _ _ _ _ => .int _)) calm_II ha hb
theorem me_pow (ha : PE X a (tM X.K cl W fa)) (hb : PE X b (tM X.K cl W fb)) : PE X (.BinOp a .Pow b pos) (tM X.K cl W (mOp oPow fa fb)) := me_op (OpW.of op_pow (op2_I cPow_ok fun _ _ _ _ => .int _)) calm_II ha hb
theorem me_lt (ha : PE X a (tM X.K cl W fa)) (hb : PE X b (tM X.K cl W fb)) : PE X (.Compare a [.Lt] [b] pos) (tM X.K cl W (mOp oLt fa fb)) := me_cmp (OpW.of op_lt (op2_I0 fun _ _ _ _ => .bl _)) calm_II ha hb
theorem me_le (ha : PE X a (tM X.K cl W fa)) (hb : PE X b (tM X.K cl W fb)) : PE X (.Compare a [.LtE] [b] pos) (tM X.K cl W (mOp oLe fa fb)) := me_cmp (OpW.of op_le (op2_I0 fun _ _ _ _ => .bl _)) calm_II ha hb
theorem me_gt (ha : PE X a (tM X.K cl W fa)) (hb : PE X b (tM X.K cl W fb)) : PE X (.Compare a [.Gt] [b] pos) (tM X.K cl W (mOp oGt fa fb)) := me_cmp (OpW.of op_gt (op2_I0 fun _ _ _ _ => .bl _)) calm_II ha hb
theorem me_ge (ha : PE X a (tM X.K cl W fa)) (hb : PE X b (tM X.K cl W fb)) : PE X (.Compare a [.GtE] [b] pos) (tM X.K cl W (mOp oGe fa fb)) := me_cmp (OpW.of op_ge (op2_I0 fun _ _ _ _ => .bl _)) calm_II ha hb

/-- the new object's id is the store's next one -/
def mkNew (o : PO) (st : Sto) : Res PV := .ok (.ref st.nx) (st.add o)
/-- a list at a value: one's own, or one that is only read -/
def lstOf (x : PV) (st : Sto) : Option (List PV) := match x with
  | .rls xs => some xs
  | .ref n => match st.get n with
    | some (.lst xs) => some xs
    | _ => none
  | _ => none
theorem lstOf_sql {K : PySem.W.Frag} {ρ : Rho} {st : Sto} {H : Hp} {x : PV} {v : V} {xs : List PV} (s : Sim K cl ρ st H) (r : RelP K ρ H x v) (h : lstOf x st = some xs) : ∃ a vs, v = .ref a ∧ SqL K H a vs ∧ RelPs K ρ H xs vs := by
  unfold lstOf at h
  split at h
  · next ys =>
    cases h
    cases r with
    | rls h r => exact ⟨_, _, rfl, h.sql, r⟩
  · next n =>
    split at h
    · next ys e =>
      cases h
      cases r with
      | ref hr =>
        obtain ⟨vs, q, r⟩ := s.at_ hr e
        exact ⟨_, vs, rfl, SqL.of q, r⟩
    · cases h
  · cases h
/-- one's own list -/
def ownL (x : PV) (st : Sto) : Option (Nat × List PV) := match x with
  | .ref n => match st.get n with
    | some (.lst xs) => some (n, xs)
    | _ => none
  | _ => none
theorem ownL_at {K : PySem.W.Frag} {ρ : Rho} {st : Sto} {H : Hp} {x : PV} {v : V} {n : Nat} {xs : List PV} (s : Sim K cl ρ st H) (r : RelP K ρ H x v) (h : ownL x st = some (n, xs)) : ∃ a vs, v = .ref a ∧ ρ n = some a ∧ H a = some (.lst vs) ∧ RelPs K ρ H xs vs ∧ st.get n = some (.lst xs) := by
  unfold ownL at h
  split at h
  · next m =>
    split at h
    · next ys e =>
      cases h
      cases r with
      | ref hr =>
        obtain ⟨vs, q, r⟩ := s.at_ hr e
        exact ⟨_, vs, rfl, hr, q, r, e⟩
    · cases h
  · cases h
def sz (n : Nat) : Bool := decide (n ≤ 16777216)
theorem sz_ok {n : Nat} (h : sz n = true) : n ≤ sizeLine := by
  rw [sizeLine_eq]
  exact of_decide_eq_true h
theorem sz_lt {n : Nat} (h : sz (n + 1) = true) : n < sizeLine := sz_ok h
def oAddS : PV → PV → Sto → Res PV := fun x y st => match x, y with
  | .str a, .str b => if sz (a.length + b.length) then .ok (.str (a ++ b)) st else .stuck
  | _, _ => .stuck
def oAddL : PV → PV → Sto → Res PV := fun x y st => match ownL x st, ownL y st with
  | some (_, xs), some (_, ys) => if sz (xs.length + ys.length) then mkNew (.lst (xs ++ ys)) st else .stuck
  | _, _ => .stuck
def tupP (x : PV) : Option (List PV) := match x with
  | .tup xs => some xs
  | .ktp xs => some xs
  | _ => none
theorem tupP_at {K : PySem.W.Frag} {ρ : Rho} {H : Hp} {x : PV} {v : V} {xs : List PV} (h : tupP x = some xs) (r : RelP K ρ H x v) : ∃ a vs, v = .ref a ∧ SqT K H a vs ∧ RelPs K ρ H xs vs := by
  cases x <;> simp only [tupP] at h <;> cases h
  · cases r with
    | tup q r => exact ⟨_, _, rfl, SqT.of q, r⟩
  · cases r with
    | ktp q r => exact ⟨_, _, rfl, q.sq, r⟩
def oAddT : PV → PV → Sto → Res PV := fun x y st => match tupP x, tupP y with
  | some xs, some ys => if sz (xs.length + ys.length) && !xs.isEmpty then (if ys.isEmpty then .ok x st else .ok (.tup (xs ++ ys)) st) else .stuck
  | _, _ => .stuck
def oAdd : PV → PV → Sto → Res PV := fun x y st => match x, y with
  | .int i, .int j => .ok (.int (i + j)) st
  | .str a, .str b => oAddS (.str a) (.str b) st
  | x, y => if (tupP x).isSome = true then oAddT x y st else oAddL x y st
theorem post_ok_new {K : PySem.W.Frag} {ρ : Rho} {st : Sto} {H : Hp} {o : PO} {u : HO} {p : Addr} {P : PV → Sto → Rho → Hp → Prop} {E : Value → Option Addr → Hp → Prop} (s : Sim K cl ρ st H) (hp : H p = none) (hn : ObjSim K cl (ρ.put st.nx p) (upd H p u) p o)
    (h : (mkNew o st).post K cl ρ H P E) : P (.ref st.nx) (st.add o) (ρ.put st.nx p) (upd H p u) := h _ _ (s.le_put p) (Ext.new hp) (s.new hp hn)
theorem new_lst {K : PySem.W.Frag} {ρ : Rho} {st : Sto} {H : Hp} {p : Addr} {xs : List PV} {vs : List V} {Q : VK} {E : Value → Option Addr → Hp → Prop} (s : Sim K cl ρ st H) (hp : H p = none) (r : RelPs K ρ H xs vs)
    (h : (mkNew (.lst xs) st).post K cl ρ H (fun z _ ρ' H' => ∀ u, RelP K ρ' H' z u → Q u H') E) : Q (.ref p) (upd H p (.lst vs)) :=
  post_ok_new (o := .lst xs) (u := .lst vs) s hp ⟨_, upd_same, r.mono (s.le_put p) (Ext.new hp)⟩ h _ (.ref Rho.put_same)
theorem sim_up {K : PySem.W.Frag} {ρ : Rho} {st : Sto} {H : Hp} {p : Addr} {u : HO} (s : Sim K cl ρ st H) (hp : H p = none) : Sim K cl ρ st (upd H p u) := s.keep (ExtW.new hp) (fun n a h1 => upd_ne fun e => by
  obtain ⟨u, q⟩ := s.there h1
  rw [e, hp] at q
  cases q) (tabs_new s.tab hp)
theorem new_tup {K : PySem.W.Frag} {ρ : Rho} {st : Sto} {H : Hp} {p : Addr} {xs : List PV} {vs : List V} {Q : VK} {E : Value → Option Addr → Hp → Prop} (s : Sim K cl ρ st H) (hp : H p = none) (r : RelPs K ρ H xs vs)
    (h : (Res.ok (PV.tup xs) st).post K cl ρ H (fun z _ ρ' H' => ∀ u, RelP K ρ' H' z u → Q u H') E) : Q (.ref p) (upd H p (.tup vs)) :=
  h ρ _ (Le.refl ρ) (Ext.new hp) (sim_up s hp) _ (.tup upd_same (r.mono (Le.refl ρ) (Ext.new hp)))
theorem rel_new {K : PySem.W.Frag} {ρ : Rho} {st : Sto} {H : Hp} {p : Addr} : RelP K (ρ.put st.nx p) H (.ref st.nx) (.ref p) := .ref Rho.put_same
theorem op2_add {K : PySem.W.Frag} : Op2 K cl (fun x y H Q => rI0 (fun i j => .int (i + j)) x y H Q ∨ (∃ i j, x = .str i ∧ y = .str j ∧ i.length + j.length ≤ sizeLine ∧ Q (.str (i ++ j)) H) ∨ rCatT K x y H Q ∨ rCat x y H Q) oAdd := by
  intro ρ st H x y v w Q s rx ry q
  unfold oAdd at q
  split at q
  · cases rx
    cases ry
    exact .inl ⟨_, _, rfl, rfl, Res.post.now s q _ (.int _)⟩
  · unfold oAddS at q
    dsimp only at q
    split at q
    · next h =>
      cases rx
      cases ry
      exact .inr (.inl ⟨_, _, rfl, rfl, sz_ok h, Res.post.now s q _ (.str _)⟩)
    · exact q.elim
  · split at q
    · unfold oAddT at q
      split at q
      · next xs ys e1 e2 =>
        split at q
        · next h =>
          obtain ⟨a1, vs, rfl, hx, r1⟩ := tupP_at e1 rx
          obtain ⟨a2, ws, rfl, hy, r2⟩ := tupP_at e2 ry
          simp only [Bool.and_eq_true, Bool.not_eq_true'] at h
          have hl := sz_ok h.1
          rw [r1.length, r2.length] at hl
          have ne : vs ≠ [] := fun e => by
            subst e
            cases r1
            simp at h
          refine .inr (.inr (.inl ⟨_, _, vs, ws, rfl, rfl, hx, hy, ne, hl, fun e => ?_, fun e p hp => ?_⟩))
          · subst e
            cases r2
            rw [if_pos (by rfl)] at q
            exact Res.post.now s q _ rx
          · have ye : ¬ (ys.isEmpty = true) := fun z => by
              cases r2 with
              | nil => exact e rfl
              | cons _ _ => cases z
            rw [if_neg ye] at q
            exact new_tup s hp (r1.append r2) q
        · exact q.elim
      · exact q.elim
    · rename_i hnt
      clear hnt
      unfold oAddL at q
      split at q
      · next n xs m ys e1 e2 =>
        split at q
        · next h =>
          obtain ⟨a1, vs, rfl, r1, h1, p1, _⟩ := ownL_at s rx e1
          obtain ⟨a2, ws, rfl, r2, h2, p2, _⟩ := ownL_at s ry e2
          have hl := sz_ok h
          rw [p1.length, p2.length] at hl
          refine .inr (.inr (.inr ⟨_, _, vs, ws, rfl, rfl, h1, h2, hl, fun p hp => ?_⟩))
          exact new_lst s hp (p1.append p2) q
        · exact q.elim
      · exact q.elim
theorem calm_add : Calm2 oAdd := by
  intro x y st e s' h
  unfold oAdd at h
  split at h
  · cases h
  · unfold oAddS at h; dsimp only at h; split at h <;> cases h
  · split at h
    · unfold oAddT at h
      split at h
      · split at h
        · split at h <;> cases h
        · cases h
      · cases h
    · unfold oAddL at h
      split at h
      · split at h
        · unfold mkNew at h; cases h
        · cases h
      · cases h
theorem me_add (ha : PE X a (tM X.K cl W fa)) (hb : PE X b (tM X.K cl W fb)) : PE X (.BinOp a .Add b pos) (tM X.K cl W (mOp oAdd fa fb)) :=
  me_op (OpW.of (op_add.or (op_add_str.or (op_catT.or op_cat))) op2_add) calm_add ha hb
def repL (xs : List PV) (k : Nat) : List PV := (List.replicate k xs).flatten
theorem RelPs.rep {K : PySem.W.Frag} {ρ : Rho} {H : Hp} {xs : List PV} {vs : List V} (h : RelPs K ρ H xs vs) : ∀ k, RelPs K ρ H (List.replicate k xs).flatten (List.replicate k vs).flatten
  | 0 => .nil
  | k + 1 => by
    rw [List.replicate_succ, List.replicate_succ, List.flatten_cons, List.flatten_cons]
    exact h.append (RelPs.rep h k)
def oMulL : PV → PV → Sto → Res PV := fun x y st => match ownL x st, y with
  | some (_, xs), .int k => if decide (-(2 ^ 63) ≤ k) && decide (k < 2 ^ 63) && sz (xs.length * k.toNat) then mkNew (.lst (repL xs k.toNat)) st else .stuck
  | _, _ => .stuck
def oMul : PV → PV → Sto → Res PV := fun x y st => match x with
  | .int _ => oMulI x y st
  | _ => oMulL x y st
theorem op2_mul {K : PySem.W.Frag} : Op2 K cl (fun x y H Q => rI CMul (fun i j => .int (i * j)) x y H Q ∨ rRep x y H Q) oMul := by
  intro ρ st H x y v w Q s rx ry q
  unfold oMul at q
  split at q
  · exact .inl (op2_I (cl := cl) cMul_ok (fun _ _ _ _ => .int _) ρ st H _ y v w Q s rx ry q)
  · unfold oMulL at q
    split at q
    · next n xs k e1 =>
      split at q
      · next h =>
        obtain ⟨a1, vs, rfl, r1, h1, p1, _⟩ := ownL_at s rx e1
        cases ry
        simp only [Bool.and_eq_true, decide_eq_true_eq] at h
        have hl := sz_ok h.2
        rw [p1.length] at hl
        exact .inr ⟨_, _, vs, rfl, rfl, h1, h.1.1, h.1.2, hl, fun p hp => new_lst s hp (p1.rep _) q⟩
      · exact q.elim
    · exact q.elim
theorem calm_mul : Calm2 oMul := by
  intro x y st e s' h
  unfold oMul at h
  split at h
  · exact calm_II _ _ _ _ _ h
  · unfold oMulL at h
    split at h
    · split at h
      · unfold mkNew at h; cases h
      · cases h
    · cases h
theorem me_mul (ha : PE X a (tM X.K cl W fa)) (hb : PE X b (tM X.K cl W fb)) : PE X (.BinOp a .Mult b pos) (tM X.K cl W (mOp oMul fa fb)) :=
  me_op (OpW.of (op_mul.or op_rep) op2_mul) calm_mul ha hb
/-- -a -/
def mNeg (fa : ME) : ME := fun σ st => (fa σ st).bind fun x st1 => match x with
  | .int i => .ok (.int (-i)) st1
  | _ => .stuck
theorem me_neg (ha : PE X a (tM X.K cl W fa)) : PE X (.UnaryOp .USub a pos) (tM X.K cl W (mNeg fa)) := (pe_un un_neg ha).imp fun σ H Q ⟨ρ, st, σp, s, rs, h⟩ => by
  refine ⟨ρ, st, σp, s, rs, Res.post.imp h.bind (fun x st1 ρ1 H1 l1 e1 s1 h1 v rv => ?_) fun _ _ _ z => z⟩
  split at h1
  · cases rv
    exact ⟨_, rfl, Res.post.now s1 h1 _ (.int _)⟩
  · exact h1.elim

def truD (kvs : List (PV × PV)) : Option Bool := match kvs with
  | [] => some false
  | (k, _) :: _ => if (keyK k).isSome = true then some true else none
def truP (x : PV) (st : Sto) : Option Bool := match x with
  | .non => some false
  | .bl b => some b
  | .int i => some (i != 0)
  | .str y => if sz y.length then some ((y.length : Int) != 0) else none
  | .tup xs => some (!xs.isEmpty)
  | .ktp xs => some (!xs.isEmpty)
  | .rls xs => some (!xs.isEmpty)
  | .ref n => match st.get n with
    | some (.lst xs) => some (!xs.isEmpty)
    | some (.dct kvs lk) => truD kvs
    | _ => none
  | .ty _ => none
end
end MP
set_option Elab.async false
set_option linter.all false
set_option maxRecDepth 100000
set_option maxHeartbeats 2000000
namespace MP
open PySem PySem.Spec L2

section
variable {X : Cx} {cl : CT} {pins : List (Addr × Obj)} {σ : L2.St} {H : Hp} {s : Shared} {ρ : Rho} {st : Sto}
theorem RoL.vals (I : Inv X pins σ H s) {a : Addr} {xs : List V} (h : RoL X.K H a xs) : SqL X.K H a xs := h.sql
/-- a list at an address is no tuple there -/
theorem not_both (I : Inv X pins σ H s) {a : Addr} {xs ys : List V} (h : SqL X.K H a xs) (h' : SqT X.K H a ys) : False := by
  obtain ⟨its, _, ⟨o, n, e, c, _, _⟩, _⟩ := I.list h
  obtain ⟨its', _, ⟨o', e', c', _⟩, _⟩ := I.tuple h'
  rw [e] at e'
  cases e'
  rw [c] at c'
  exact absurd c' (by decide)
/-- what stands at an id's address is no tuple and no list that is only read -/
theorem obj_soft (S : Sim X.K cl ρ st H) {n : Nat} {a : Addr} (hr : ρ n = some a) : ∃ u, H a = some u ∧ NotSeq u := by
  have h := S.dom n a hr
  have : ∃ o, st.get n = some o := by
    unfold Sto.get
    exact ⟨st.objs[n]'h, Array.getElem?_eq_getElem h⟩
  obtain ⟨o, e⟩ := this
  have q := S.at_ hr e
  cases o with
  | lst xs => obtain ⟨vs, q, r⟩ := q; exact ⟨_, q, trivial⟩
  | dct kvs lk =>
    obtain ⟨u, r, q⟩ := q
    have hu : (∃ vs, u = .dT vs) ∨ ∃ vs, u = .dK vs := by
      rcases r with ⟨vs, z, _⟩ | ⟨_, vs, z, _⟩
      · exact .inr ⟨vs, z⟩
      · exact .inl ⟨vs, z⟩
    cases lk with
    | true =>
      obtain ⟨z, q⟩ := q
      rcases hu with ⟨vs, rfl⟩ | ⟨vs, rfl⟩ <;> exact ⟨_, q, trivial⟩
    | false => rcases hu with ⟨vs, rfl⟩ | ⟨vs, rfl⟩ <;> exact ⟨_, q, trivial⟩
  | ins c fs => obtain ⟨dx, vs, q, r⟩ := q; exact ⟨_, q, trivial⟩
theorem soft_rd {u : HO} {a : Addr} {xs : List V} (h : H a = some u) (sf : NotSeq u) : ¬ Rd H a (.tup xs) := fun q => by
  rcases q with q | ⟨z, q⟩
  · rw [h] at q; cases q; exact sf
  · rw [h] at q; cases q; exact sf
/-- an id's address in the state: its object is no list of the module .. -/
theorem ref_kL (I : Inv X pins σ H s) {a : Addr} {u : HO} (hu : H a = some u) {o : Obj} (hk : X.K.lookup a = some o) : False := by
  have e := I.ok.mod.kin a o hk
  have := (I.bs a o e).2
  rw [hu] at this
  cases this
theorem ref_tup (I : Inv X pins σ H s) (S : Sim X.K cl ρ st H) {n : Nat} {a : Addr} {vs : List V} (hr : ρ n = some a) (h : SqT X.K H a vs) : False := by
  obtain ⟨u, hu, sf⟩ := obj_soft S hr
  rcases h with h | ⟨o, _, _, hk, _⟩
  · exact soft_rd hu sf h
  · exact ref_kL I hu hk
theorem ref_rol (I : Inv X pins σ H s) (S : Sim X.K cl ρ st H) {n : Nat} {a : Addr} {vs : List V} (hr : ρ n = some a) (h : RoL X.K H a vs) : False := by
  obtain ⟨u, hu, sf⟩ := obj_soft S hr
  rcases h with ⟨z, h⟩ | ⟨o, _, _, hk, _⟩
  · rw [hu] at h; cases h; exact sf
  · exact ref_kL I hu hk
mutual
theorem RelP.inj (I : Inv X pins σ H s) (S : Sim X.K cl ρ st H) : ∀ {x y : PV} {v : V}, RelP X.K ρ H x v → RelP X.K ρ H y v → x = y
  | _, _, _, .non, h => by cases h; rfl
  | _, _, _, .bl b, h => by cases h; rfl
  | _, _, _, .int i, h => by cases h; rfl
  | _, _, _, .str x, h => by cases h; rfl
  | _, _, _, .ty n, h => by cases h; rfl
  | _, _, _, .tup (vs := vs) hq r, h => by
    cases h with
    | tup hq' r' => rw [I.tuple_inj (SqT.of hq') (SqT.of hq)] at r'; rw [RelPs.inj I S r r']
    | ktp hq' r' => obtain ⟨o, _, _, hk, _⟩ := hq'; exact (ref_kL I hq hk).elim
    | rls hq' r' => exact (not_both I hq'.sql (SqT.of hq)).elim
    | ref hr => exact (ref_tup I S hr (SqT.of hq)).elim
  | _, _, _, .ktp (vs := vs) hq r, h => by
    cases h with
    | tup hq' r' => obtain ⟨o, _, _, hk, _⟩ := hq; exact (ref_kL I hq' hk).elim
    | ktp hq' r' => rw [I.tuple_inj (hq'.sq (H := H)) (hq.sq (H := H))] at r'; rw [RelPs.inj I S r r']
    | rls hq' r' => exact (not_both I hq'.sql (hq.sq (H := H))).elim
    | ref hr => exact (ref_tup I S hr (hq.sq (H := H))).elim
  | _, _, _, .rls hq r, h => by
    cases h with
    | tup hq' r' => exact (not_both I hq.sql (SqT.of hq')).elim
    | ktp hq' r' => exact (not_both I hq.sql (hq'.sq (H := H))).elim
    | rls hq' r' => rw [I.list_inj hq'.sql hq.sql] at r'; rw [RelPs.inj I S r r']
    | ref hr => exact (ref_rol I S hr hq).elim
  | _, _, _, .ref hr, h => by
    cases h with
    | tup hq' r' => exact (ref_tup I S hr (SqT.of hq')).elim
    | ktp hq' r' => exact (ref_tup I S hr (hq'.sq (H := H))).elim
    | rls hq' r' => exact (ref_rol I S hr hq').elim
    | ref hr' => rw [S.inj _ _ _ hr hr']
theorem RelPs.inj (I : Inv X pins σ H s) (S : Sim X.K cl ρ st H) : ∀ {x y : List PV} {v : List V}, RelPs X.K ρ H x v → RelPs X.K ρ H y v → x = y
  | _, _, _, .nil, h => by cases h; rfl
  | _, _, _, .cons h t, h' => by
    cases h' with
    | cons h2 t2 => rw [RelP.inj I S h h2, RelPs.inj I S t t2]
end

/-- None, bools, ints, texts -/
def vOf : PV → Option V
  | .non => some .non
  | .bl b => some (.bl b)
  | .int i => some (.int i)
  | .str x => some (.str x)
  | _ => none
theorem vOf_rel {K : PySem.W.Frag} {x : PV} {v a : V} (r : RelP K ρ H x v) (h : vOf x = some a) : v = a ∧ flatV a = true := by
  cases r <;> first | (cases h; exact ⟨rfl, rfl⟩) | cases h
def eqS (x y : PV) : Option Bool := match vOf x, vOf y with
  | some a, some b => some (eqV a b)
  | _, _ => none
def isS (x : PV) : Bool := (vOf x).isSome
/-- a list or a tuple (true: a tuple) -/
def seqOf (x : PV) (st : Sto) : Option (Bool × List PV) := match x with
  | .tup xs => some (true, xs)
  | .ktp xs => some (true, xs)
  | x => (lstOf x st).map fun xs => (false, xs)
/-- the items' answers, up to the shorter one's end -/
def allEq (f : PV → PV → Option Bool) : List PV → List PV → Option Bool
  | x :: xs, y :: ys => match f x y, allEq f xs ys with
    | some a, some b => some (a && b)
    | _, _ => none
  | _, _ => some true
/-- one object -/
def oneRef : PV → PV → Bool
  | .ref a, .ref b => a == b
  | _, _ => false
/-- as items of a list compare: the same object is equal to itself -/
def eqN (st : Sto) (f : PV → PV → Option Bool) (x y : PV) : Option Bool := match seqOf x st, seqOf y st with
    | some (a, xs), some (b, ys) => if a = b then
        if a = true then (allEq f xs ys).map fun c => c && xs.length == ys.length
        else if xs.length = ys.length then allEq f xs ys else some false
      else some false
    | some _, none => if isS y then some false else none
    | none, some _ => if isS x then some false else none
    | none, none => eqS x y
def eqP (st : Sto) : Nat → PV → PV → Option Bool
  | 0, x, y => if oneRef x y then some true else eqS x y
  | n + 1, x, y => if oneRef x y then some true else eqN st (eqP st n) x y
theorem eqV_refl : ∀ {a : V}, flatV a = true → eqV a a = true := fun {a} h => by
  cases a <;> first | rfl | (simp [eqV]; done) | (exact absurd (show false = true from h) Bool.false_ne_true)
theorem eqS_refl {x : PV} {b : Bool} (h : eqS x x = some b) : b = true := by
  unfold eqS at h
  cases x <;> simp [vOf, eqV] at h <;> first | exact h.symm | exact h
theorem allEq_refl {f : PV → PV → Option Bool} (hf : ∀ x b, f x x = some b → b = true) : ∀ {xs : List PV} {c : Bool}, allEq f xs xs = some c → c = true
  | [], c, h => by simp [allEq] at h; exact h.symm ▸ rfl
  | x :: xs, c, h => by
    rw [allEq] at h
    cases e1 : f x x with
    | none => rw [e1] at h; cases h
    | some a =>
      cases e2 : allEq f xs xs with
      | none => rw [e1, e2] at h; cases h
      | some b =>
        rw [e1, e2] at h
        have h' : (a && b) = c := Option.some.inj h
        rw [← h', hf x a e1, allEq_refl hf e2]; rfl
theorem eqP_refl {st : Sto} : ∀ (n : Nat) (x : PV) (b : Bool), eqP st n x x = some b → b = true
  | 0, x, b, h => by
    unfold eqP at h
    split at h
    · cases h; rfl
    · exact eqS_refl h
  | n + 1, x, b, h => by
    unfold eqP at h
    split at h
    · cases h; rfl
    · unfold eqN at h
      split at h
      · next a xs b' ys e1 e2 =>
        rw [e1] at e2
        cases e2
        rw [if_pos rfl] at h
        split at h
        · cases e : allEq (eqP st n) xs xs with
          | none => rw [e] at h; cases h
          | some c =>
            rw [e] at h
            cases h
            rw [allEq_refl (eqP_refl n) e]
            simp
        · rw [if_pos rfl] at h
          exact allEq_refl (eqP_refl n) h
      · split at h
        · next e1 e2 _ => rw [e1] at e2; cases e2
        · cases h
      · split at h
        · next e1 e2 _ => rw [e1] at e2; cases e2
        · cases h
      · exact eqS_refl h
def ansAt (f : PV → PV → Option Bool) (xs ys : List PV) (j : Nat) : Bool := match xs[j]?, ys[j]? with
  | some x, some y => (f x y).getD false
  | _, _ => false
theorem allEq_at {f : PV → PV → Option Bool} : ∀ {xs ys : List PV} {c : Bool}, allEq f xs ys = some c →
    (∀ (j : Nat) (x y : PV), xs[j]? = some x → ys[j]? = some y → ∃ b, f x y = some b) ∧ c = (List.range (min xs.length ys.length)).all (ansAt f xs ys)
  | [], ys, c, h => by
    simp only [allEq, Option.some.injEq] at h
    subst h
    exact ⟨fun j x y e _ => by simp at e, by simp⟩
  | x :: xs, [], c, h => by
    simp only [allEq, Option.some.injEq] at h
    subst h
    exact ⟨fun j x y _ e => by simp at e, by simp⟩
  | x :: xs, y :: ys, c, h => by
    rw [allEq] at h
    cases e1 : f x y with
    | none => rw [e1] at h; cases h
    | some a =>
      cases e2 : allEq f xs ys with
      | none => rw [e1, e2] at h; cases h
      | some b =>
        rw [e1, e2] at h
        have h' : (a && b) = c := Option.some.inj h
        obtain ⟨i1, i2⟩ := allEq_at e2
        refine ⟨fun j x' y' ex ey => ?_, ?_⟩
        · cases j with
          | zero =>
            simp at ex ey
            subst ex ey
            exact ⟨a, e1⟩
          | succ j => exact i1 j x' y' (by simpa using ex) (by simpa using ey)
        · have hm : min (x :: xs).length (y :: ys).length = min xs.length ys.length + 1 := by simp only [List.length_cons]; omega
          have h0 : ansAt f (x :: xs) (y :: ys) 0 = a := by simp [ansAt, e1]
          have hs : ansAt f (x :: xs) (y :: ys) ∘ Nat.succ = ansAt f xs ys := by
            funext j
            simp [ansAt, Function.comp]
          rw [← h', hm, List.range_succ_eq_map, List.all_cons, List.all_map, h0, hs, ← i2]
theorem RelPs.ent {K : PySem.W.Frag} {xs : List PV} {vs : List V} {us : List Value} (h : RelPs K ρ H xs vs) (r : Vals vs us) (j : Nat) (hj : j < us.toArray.size) : ∃ x v, xs[j]? = some x ∧ vs[j]? = some v ∧ RelP K ρ H x v ∧ RelV v us.toArray[j] := by
  have h1 := h.length
  have h2 := r.length
  simp at hj
  have l1 : j < xs.length := by omega
  obtain ⟨v, e1, e2⟩ := h.get (i := j) (x := xs[j]) (List.getElem?_eq_getElem l1)
  obtain ⟨u, e3, e4⟩ := r.get e1
  refine ⟨xs[j], v, List.getElem?_eq_getElem l1, e1, e2, ?_⟩
  have : us.toArray[j] = u := by
    rw [List.getElem?_eq_getElem hj] at e3
    simpa using Option.some.inj e3
  rw [this]
  exact e4
theorem eqS_at {K : PySem.W.Frag} {x y : PV} {v w : V} {u t : Value} {b : Bool} {A : Around} {s : Shared} (rx : RelP K ρ H x v) (ry : RelP K ρ H y w) (rv : RelV v u) (rw' : RelV w t) (h : eqS x y = some b) : SeqAt.EqAt A s u t b := by
  unfold eqS at h
  split at h
  · next a c e1 e2 =>
    cases h
    obtain ⟨rfl, f1⟩ := vOf_rel rx e1
    obtain ⟨rfl, f2⟩ := vOf_rel ry e2
    exact eqAt_V rv rw' f1 f2
  · cases h
/-- the comparison itself, of flat values -/
theorem rcAt_V {A : Around} {s : Shared} {y x : V} {u v : Value} (ry : RelV y u) (rx : RelV x v) (fy : flatV y = true) (fx : flatV x = true) : SeqAt.RcAt A s u v (eqV y x) := by
  cases y with
  | non =>
    cases ry
    cases x with
    | non => cases rx; exact SeqAt.RcAt.none_none
    | bl b => cases rx; exact SeqAt.RcAt.none_bool b
    | int b => obtain ⟨t, rfl⟩ := rx; exact SeqAt.RcAt.none_int b t
    | str b => obtain ⟨t, rfl⟩ := rx; exact SeqAt.RcAt.none_str b t
    | _ => exact absurd (show false = true from fx) Bool.false_ne_true
  | bl a =>
    cases ry
    cases x with
    | non => cases rx; exact SeqAt.RcAt.bool_none a
    | bl b => cases rx; exact SeqAt.RcAt.bool_bool a b
    | int b => obtain ⟨t, rfl⟩ := rx; exact SeqAt.RcAt.bool_int a b t
    | str b => obtain ⟨t, rfl⟩ := rx; exact SeqAt.RcAt.bool_str a b t
    | _ => exact absurd (show false = true from fx) Bool.false_ne_true
  | int a =>
    obtain ⟨t', rfl⟩ := ry
    cases x with
    | non => cases rx; exact SeqAt.RcAt.int_none a t'
    | bl b => cases rx; exact SeqAt.RcAt.int_bool a t' b
    | int b => obtain ⟨t, rfl⟩ := rx; exact SeqAt.RcAt.int_int a t' b t
    | str b => obtain ⟨t, rfl⟩ := rx; exact SeqAt.RcAt.int_str a t' b t
    | _ => exact absurd (show false = true from fx) Bool.false_ne_true
  | str a =>
    obtain ⟨t', rfl⟩ := ry
    cases x with
    | non => cases rx; exact SeqAt.RcAt.str_none a t'
    | bl b => cases rx; exact SeqAt.RcAt.str_bool a t' b
    | int b => obtain ⟨t, rfl⟩ := rx; exact SeqAt.RcAt.str_int a t' b t
    | str b => obtain ⟨t, rfl⟩ := rx; exact SeqAt.RcAt.str_str a t' b t
    | _ => exact absurd (show false = true from fx) Bool.false_ne_true
  | _ => exact absurd (show false = true from fy) Bool.false_ne_true
theorem rcNeAt_V {A : Around} {s : Shared} {y x : V} {u v : Value} (ry : RelV y u) (rx : RelV x v) (fy : flatV y = true) (fx : flatV x = true) : SeqAt.RcNeAt A s u v (!eqV y x) := by
  cases y with
  | non =>
    cases ry
    cases x with
    | non => cases rx; exact SeqAt.RcNeAt.none_none
    | bl b => cases rx; exact SeqAt.RcNeAt.none_bool b
    | int b => obtain ⟨t, rfl⟩ := rx; exact SeqAt.RcNeAt.none_int b t
    | str b => obtain ⟨t, rfl⟩ := rx; exact SeqAt.RcNeAt.none_str b t
    | _ => exact absurd (show false = true from fx) Bool.false_ne_true
  | bl a =>
    cases ry
    cases x with
    | non => cases rx; exact SeqAt.RcNeAt.bool_none a
    | bl b => cases rx; exact SeqAt.RcNeAt.bool_bool a b
    | int b => obtain ⟨t, rfl⟩ := rx; exact SeqAt.RcNeAt.bool_int a b t
    | str b => obtain ⟨t, rfl⟩ := rx; exact SeqAt.RcNeAt.bool_str a b t
    | _ => exact absurd (show false = true from fx) Bool.false_ne_true
  | int a =>
    obtain ⟨t', rfl⟩ := ry
    cases x with
    | non => cases rx; exact SeqAt.RcNeAt.int_none a t'
    | bl b => cases rx; exact SeqAt.RcNeAt.int_bool a t' b
    | int b => obtain ⟨t, rfl⟩ := rx; exact SeqAt.RcNeAt.int_int a t' b t
    | str b => obtain ⟨t, rfl⟩ := rx; exact SeqAt.RcNeAt.int_str a t' b t
    | _ => exact absurd (show false = true from fx) Bool.false_ne_true
  | str a =>
    obtain ⟨t', rfl⟩ := ry
    cases x with
    | non => cases rx; exact SeqAt.RcNeAt.str_none a t'
    | bl b => cases rx; exact SeqAt.RcNeAt.str_bool a t' b
    | int b => obtain ⟨t, rfl⟩ := rx; exact SeqAt.RcNeAt.str_int a t' b t
    | str b => obtain ⟨t, rfl⟩ := rx; exact SeqAt.RcNeAt.str_str a t' b t
    | _ => exact absurd (show false = true from fx) Bool.false_ne_true
  | _ => exact absurd (show false = true from fy) Bool.false_ne_true
/-- the items of what is a list or a tuple -/
theorem seqOf_at (I : Inv X pins σ H s) (S : Sim X.K cl ρ st H) {x : PV} {v : V} {u : Value} {t : Bool} {xs : List PV} (rx : RelP X.K ρ H x v) (rv : RelV v u) (h : seqOf x st = some (t, xs)) :
    ∃ a vs its, u = .ref a ∧ RelPs X.K ρ H xs vs ∧ Vals vs its ∧ if t = true then s.heap.IsTuple a its.toArray else s.heap.IsList a its.toArray := by
  unfold seqOf at h
  split at h
  · cases h
    cases rx with
    | tup hq r =>
      cases rv
      obtain ⟨its, rvs, p, _⟩ := I.tuple (SqT.of hq)
      exact ⟨_, _, its, rfl, r, rvs, p⟩
  · cases h
    cases rx with
    | ktp hq r =>
      cases rv
      obtain ⟨its, rvs, p, _⟩ := I.tuple (hq.sq (H := H))
      exact ⟨_, _, its, rfl, r, rvs, p⟩
  · next y hy _ =>
    cases e : lstOf x st with
    | none => rw [e] at h; cases h
    | some ys =>
      rw [e] at h
      cases h
      obtain ⟨a, vs, rfl, hq, r⟩ := lstOf_sql S rx e
      cases rv
      obtain ⟨its, rvs, p, _⟩ := I.list hq
      exact ⟨a, vs, its, rfl, r, rvs, p.isList⟩
theorem oneRef_at {K : PySem.W.Frag} {x y : PV} {v w : V} {u t : Value} (rx : RelP K ρ H x v) (ry : RelP K ρ H y w) (rv : RelV v u) (rw' : RelV w t) (h : oneRef x y = true) : u = t := by
  unfold oneRef at h
  split at h
  · next a b =>
    have e : a = b := by simpa using h
    subst e
    cases rx with
    | ref h1 =>
      cases ry with
      | ref h2 =>
        rw [h1] at h2
        cases h2
        cases rv
        cases rw'
        rfl
  · cases h
theorem isS_at {K : PySem.W.Frag} {x : PV} {v : V} (r : RelP K ρ H x v) (h : isS x = true) : flatV v = true := by
  unfold isS at h
  obtain ⟨a, e⟩ := Option.isSome_iff_exists.mp h
  obtain ⟨rfl, f⟩ := vOf_rel r e
  exact f
/-- a sequence and a flat value -/
theorem seq_flat {A : Around} {s : Shared} {a : Addr} {its : Array Value} {w : V} {t : Value} {b : Bool} (hq : if b = true then s.heap.IsTuple a its else s.heap.IsList a its) (rw' : RelV w t) (f : flatV w = true) (hu : A.units < cLine) :
    SeqAt.EqAt A s (.ref a) t false ∧ SeqAt.RcAt A s (.ref a) t false ∧ SeqAt.RcNeAt A s (.ref a) t true ∧ SeqAt.EqAt A s t (.ref a) false ∧ SeqAt.RcAt A s t (.ref a) false ∧ SeqAt.RcNeAt A s t (.ref a) true := by
  cases b with
  | true =>
    have hq : s.heap.IsTuple a its := hq
    cases w with
    | non => cases rw'; exact ⟨.tuple_none hq hu, .tuple_none hq hu, .tuple_none hq hu, .none_tuple hq hu, .none_tuple hq hu, .none_tuple hq hu⟩
    | bl b => cases rw'; exact ⟨.tuple_bool _ hq hu, .tuple_bool _ hq hu, .tuple_bool _ hq hu, .bool_tuple _ hq hu, .bool_tuple _ hq hu, .bool_tuple _ hq hu⟩
    | int b => obtain ⟨t, rfl⟩ := rw'; exact ⟨.tuple_int _ _ hq hu, .tuple_int _ _ hq hu, .tuple_int _ _ hq hu, .int_tuple _ _ hq hu, .int_tuple _ _ hq hu, .int_tuple _ _ hq hu⟩
    | str b => obtain ⟨t, rfl⟩ := rw'; exact ⟨.tuple_str _ _ hq hu, .tuple_str _ _ hq hu, .tuple_str _ _ hq hu, .str_tuple _ _ hq hu, .str_tuple _ _ hq hu, .str_tuple _ _ hq hu⟩
    | _ => exact absurd (show false = true from f) Bool.false_ne_true
  | false =>
    have hq : s.heap.IsList a its := hq
    cases w with
    | non => cases rw'; exact ⟨.list_none hq hu, .list_none hq hu, .list_none hq hu, .none_list hq hu, .none_list hq hu, .none_list hq hu⟩
    | bl b => cases rw'; exact ⟨.list_bool _ hq hu, .list_bool _ hq hu, .list_bool _ hq hu, .bool_list _ hq hu, .bool_list _ hq hu, .bool_list _ hq hu⟩
    | int b => obtain ⟨t, rfl⟩ := rw'; exact ⟨.list_int _ _ hq hu, .list_int _ _ hq hu, .list_int _ _ hq hu, .int_list _ _ hq hu, .int_list _ _ hq hu, .int_list _ _ hq hu⟩
    | str b => obtain ⟨t, rfl⟩ := rw'; exact ⟨.list_str _ _ hq hu, .list_str _ _ hq hu, .list_str _ _ hq hu, .str_list _ _ hq hu, .str_list _ _ hq hu, .str_list _ _ hq hu⟩
    | _ => exact absurd (show false = true from f) Bool.false_ne_true
/-- two sequences: the comparisons, from their items' -/
theorem seq_seq {A : Around} {s : Shared} {a b : Addr} {its its2 : List Value} {p q : Bool} {e : Nat → Bool} {c : Bool} (h1 : if p = true then s.heap.IsTuple a its.toArray else s.heap.IsList a its.toArray) (h2 : if q = true then s.heap.IsTuple b its2.toArray else s.heap.IsList b its2.toArray)
    (hu : A.units < cLine) (he : p = q → (p = true ∨ its.length = its2.length) → ∀ j (h1 : j < its.toArray.size) (h2 : j < its2.toArray.size), SeqAt.EqAt A.in1 s its.toArray[j] its2.toArray[j] (e j))
    (hc : c = if p = q then if p = true then (List.range (min its.length its2.length)).all e && its.length == its2.length else if its.length = its2.length then (List.range (min its.length its2.length)).all e else false else false) :
    SeqAt.RcAt A s (.ref a) (.ref b) c ∧ SeqAt.RcNeAt A s (.ref a) (.ref b) (!c) := by
  by_cases hpq : p = q
  · subst hpq
    rw [if_pos rfl] at hc
    cases p with
    | true =>
      have h1 : s.heap.IsTuple a its.toArray := h1
      have h2 : s.heap.IsTuple b its2.toArray := h2
      rw [if_pos rfl] at hc
      have r1 := SeqAt.RcAt.tuples h1 h2 hu (he rfl (.inl rfl))
      have r2 := SeqAt.RcNeAt.tuples h1 h2 hu (he rfl (.inl rfl))
      simp only [List.size_toArray] at r1 r2
      rw [hc]
      exact ⟨r1, r2⟩
    | false =>
      have h1 : s.heap.IsList a its.toArray := h1
      have h2 : s.heap.IsList b its2.toArray := h2
      rw [if_neg Bool.false_ne_true] at hc
      by_cases hl : its.length = its2.length
      · rw [if_pos hl] at hc
        have r1 := SeqAt.RcAt.lists h1 h2 (by simpa using hl) hu (he rfl (.inr hl))
        have r2 := SeqAt.RcNeAt.lists h1 h2 (by simpa using hl) hu (he rfl (.inr hl))
        simp only [List.size_toArray] at r1 r2
        have hm : min its.length its2.length = its.length := by omega
        rw [hm] at hc
        rw [hc]
        exact ⟨r1, r2⟩
      · rw [if_neg hl] at hc
        rw [hc]
        exact ⟨.lists_lengths h1 h2 (by simpa using hl) hu, .lists_lengths h1 h2 (by simpa using hl) hu⟩
  · rw [if_neg hpq] at hc
    rw [hc]
    cases p with
    | true =>
      have hq : q = false := by cases q <;> simp_all
      subst hq
      exact ⟨.tuple_list h1 h2 hu, .tuple_list h1 h2 hu⟩
    | false =>
      have hq : q = true := by cases q <;> simp_all
      subst hq
      exact ⟨.list_tuple h1 h2 hu, .list_tuple h1 h2 hu⟩
/-- items' answers, over the machine's items -/
def ItemsAt (A : Around) (s : Shared) (its its2 : List Value) (e : Nat → Bool) : Prop := ∀ j (h1 : j < its.toArray.size) (h2 : j < its2.toArray.size), SeqAt.EqAt A s its.toArray[j] its2.toArray[j] (e j)
theorem eqN_at (I : Inv X pins σ H s) (S : Sim X.K cl ρ st H) {f : PV → PV → Option Bool} {A : Around} (hu : A.units < cLine)
    (hf : ∀ {x y : PV} {v w : V} {u t : Value} {b : Bool}, RelP X.K ρ H x v → RelP X.K ρ H y w → RelV v u → RelV w t → f x y = some b → SeqAt.EqAt A.in1 s u t b)
    {x y : PV} {v w : V} {u t : Value} {c : Bool} (rx : RelP X.K ρ H x v) (ry : RelP X.K ρ H y w) (rv : RelV v u) (rw' : RelV w t) (h : eqN st f x y = some c) :
    (SeqAt.RcAt A s u t c ∧ SeqAt.RcNeAt A s u t (!c)) ∧ ((∀ l b, u = .ref l → t = .ref b → l ≠ b) → SeqAt.EqAt A s u t c) := by
  unfold eqN at h
  split at h
  · next a xs b ys e1 e2 =>
    obtain ⟨a1, vs, its, rfl, r1, v1, q1⟩ := seqOf_at I S rx rv e1
    obtain ⟨a2, ws, its2, rfl, r2, v2, q2⟩ := seqOf_at I S ry rw' e2
    have l1 : xs.length = its.length := r1.length.trans v1.length
    have l2 : ys.length = its2.length := r2.length.trans v2.length
    have key : SeqAt.RcAt A s (.ref a1) (.ref a2) c ∧ SeqAt.RcNeAt A s (.ref a1) (.ref a2) (!c) := by
      have items : ∀ {d : Bool}, allEq f xs ys = some d → ItemsAt A.in1 s its its2 (ansAt f xs ys) ∧ d = (List.range (min its.length its2.length)).all (ansAt f xs ys) := fun {d} e => by
        obtain ⟨i1, i2⟩ := allEq_at e
        refine ⟨fun j h1 h2 => ?_, by rw [← l1, ← l2]; exact i2⟩
        obtain ⟨x', v', ex, ev, rx', rv'⟩ := r1.ent v1 j h1
        obtain ⟨y', w', ey, ew, ry', rw2⟩ := r2.ent v2 j h2
        obtain ⟨b', eb⟩ := i1 j x' y' ex ey
        have : ansAt f xs ys j = b' := by simp [ansAt, ex, ey, eb]
        rw [this]
        exact hf rx' ry' rv' rw2 eb
      by_cases hab : a = b
      · subst hab
        rw [if_pos rfl] at h
        by_cases ha : a = true
        · rw [if_pos ha] at h
          cases e : allEq f xs ys with
          | none => rw [e] at h; cases h
          | some d =>
            rw [e] at h
            have h' : (d && xs.length == ys.length) = c := Option.some.inj h
            obtain ⟨i1, i2⟩ := items e
            refine seq_seq q1 q2 hu (fun _ _ => i1) ?_
            rw [if_pos rfl, if_pos ha, ← h', i2, l1, l2]
        · rw [if_neg ha] at h
          by_cases hl : xs.length = ys.length
          · rw [if_pos hl] at h
            obtain ⟨i1, i2⟩ := items h
            refine seq_seq q1 q2 hu (fun _ _ => i1) ?_
            rw [if_pos rfl, if_neg ha, if_pos (by omega)]
            exact i2
          · rw [if_neg hl] at h
            cases h
            refine seq_seq (e := fun _ => false) q1 q2 hu (fun _ z => ?_) ?_
            · rcases z with z | z
              · exact absurd z ha
              · omega
            · rw [if_pos rfl, if_neg ha, if_neg (by omega)]
      · rw [if_neg hab] at h
        cases h
        exact seq_seq (e := fun _ => false) q1 q2 hu (fun z => absurd z hab) (by rw [if_neg hab])
    exact ⟨key, fun hne => SeqAt.EqAt.of_refs (hne _ _ rfl rfl) key.1⟩
  · next a xs e1 e2 =>
    obtain ⟨a1, vs, its, rfl, r1, v1, q1⟩ := seqOf_at I S rx rv e1
    split at h
    · next hs =>
      cases h
      obtain ⟨h1, h2, h3, _⟩ := seq_flat q1 rw' (isS_at ry hs) hu
      exact ⟨⟨h2, h3⟩, fun _ => h1⟩
    · cases h
  · next b ys e1 e2 =>
    obtain ⟨a2, ws, its2, rfl, r2, v2, q2⟩ := seqOf_at I S ry rw' e2
    split at h
    · next hs =>
      cases h
      obtain ⟨_, _, _, h1, h2, h3⟩ := seq_flat q2 rv (isS_at rx hs) hu
      exact ⟨⟨h2, h3⟩, fun _ => h1⟩
    · cases h
  · have h0 := h
    unfold eqS at h
    split at h
    · next a b e1 e2 =>
      cases h
      obtain ⟨rfl, f1⟩ := vOf_rel rx e1
      obtain ⟨rfl, f2⟩ := vOf_rel ry e2
      exact ⟨⟨rcAt_V rv rw' f1 f2, rcNeAt_V rv rw' f1 f2⟩, fun _ => eqS_at rx ry rv rw' h0⟩
    · cases h
theorem eqP_at (I : Inv X pins σ H s) (S : Sim X.K cl ρ st H) : ∀ (n : Nat) {A : Around}, A.units + n < cLine → ∀ {x y : PV} {v w : V} {u t : Value} {b : Bool}, RelP X.K ρ H x v → RelP X.K ρ H y w → RelV v u → RelV w t → eqP st n x y = some b → SeqAt.EqAt A s u t b
  | 0, A, hu, x, y, v, w, u, t, b, rx, ry, rv, rw', h => by
    unfold eqP at h
    split at h
    · next h1 =>
      cases h
      rw [oneRef_at rx ry rv rw' h1]
      exact SeqAt.EqAt.same _
    · exact eqS_at rx ry rv rw' h
  | n + 1, A, hu, x, y, v, w, u, t, b, rx, ry, rv, rw', h => by
    have h0 := h
    unfold eqP at h
    split at h
    · next h1 =>
      cases h
      rw [oneRef_at rx ry rv rw' h1]
      exact SeqAt.EqAt.same _
    · by_cases hut : ∃ l, u = .ref l ∧ t = .ref l
      · obtain ⟨l, rfl, rfl⟩ := hut
        have e : v = w := rv.inj rw'
        subst e
        have e2 := RelP.inj I S rx ry
        subst e2
        rw [eqP_refl (n + 1) x b h0]
        exact SeqAt.EqAt.same _
      · refine (eqN_at I S (by omega) (fun rx ry rv rw' h => eqP_at I S n (A := A.in1) (by show A.units + 1 + n < cLine; omega) rx ry rv rw' h) rx ry rv rw' h).2 fun l b e1 e2 z => hut ⟨l, e1, ?_⟩
        rw [z]
        exact e2
end

def oEq : PV → PV → Sto → Res PV := fun x y st => match eqN st (eqP st 60) x y with
  | some b => .ok (.bl b) st
  | none => .stuck
def oNe : PV → PV → Sto → Res PV := fun x y st => match eqN st (eqP st 60) x y with
  | some b => .ok (.bl (!b)) st
  | none => .stuck
section
variable {X : Cx} {cl : CT} {W : WX} {a b c : Expr} {fa fb fc : ME} {pos : Pos}
theorem calm_eq : Calm2 oEq := fun x y st e s' h => by unfold oEq at h; split at h <;> cases h
theorem calm_ne : Calm2 oNe := fun x y st e s' h => by unfold oNe at h; split at h <;> cases h
theorem ow_eq (hu : X.A.units + 64 < cLine) : OpW X cl (compareOp .Eq) oEq := fun pins s σ H ρ st x y v w vu wu Q I S rx ry rv rw' h => by
  unfold oEq at h
  split at h
  · next b e =>
    refine (eqN_at I S (by omega) (fun rx ry rv rw' h => eqP_at I S 60 (A := X.A.in1) (by show X.A.units + 1 + 60 < cLine; omega) rx ry rv rw' h) rx ry rv rw' e).1.1 X.prog X.w X.xe _ ?_
    exact ⟨.bl b, H, I, rfl, Res.post.now S h _ (.bl b)⟩
  · exact h.elim
theorem ow_ne (hu : X.A.units + 64 < cLine) : OpW X cl (compareOp .NotEq) oNe := fun pins s σ H ρ st x y v w vu wu Q I S rx ry rv rw' h => by
  unfold oNe at h
  split at h
  · next b e =>
    refine (eqN_at I S (by omega) (fun rx ry rv rw' h => eqP_at I S 60 (A := X.A.in1) (by show X.A.units + 1 + 60 < cLine; omega) rx ry rv rw' h) rx ry rv rw' e).1.2 X.prog X.w X.xe _ ?_
    exact ⟨.bl (!b), H, I, rfl, Res.post.now S h _ (.bl _)⟩
  · exact h.elim
theorem me_eq (hu : X.A.units + 64 < cLine) (ha : PE X a (tM X.K cl W fa)) (hb : PE X b (tM X.K cl W fb)) : PE X (.Compare a [.Eq] [b] pos) (tM X.K cl W (mOp oEq fa fb)) := me_cmp (ow_eq hu) calm_eq ha hb
theorem me_ne (hu : X.A.units + 64 < cLine) (ha : PE X a (tM X.K cl W fa)) (hb : PE X b (tM X.K cl W fb)) : PE X (.Compare a [.NotEq] [b] pos) (tM X.K cl W (mOp oNe fa fb)) := me_cmp (ow_ne hu) calm_ne ha hb
/-- a is None, a is not None -/
def oIsN : PV → PV → Sto → Res PV := fun x y st => match y with
  | .non => .ok (.bl (match x with | .non => true | _ => false)) st
  | _ => .stuck
def oNotN : PV → PV → Sto → Res PV := fun x y st => match y with
  | .non => .ok (.bl (match x with | .non => false | _ => true)) st
  | _ => .stuck
theorem me_isN (ha : PE X a (tM X.K cl W fa)) (hb : PE X b (tM X.K cl W fb)) : PE X (.Compare a [.Is] [b] pos) (tM X.K cl W (mOp oIsN fa fb)) := by
  refine me_cmp (OpW.of op_isN fun ρ st H x y v w Q S rx ry h => ?_) (fun x y st e s' h => by unfold oIsN at h; split at h <;> cases h) ha hb
  unfold oIsN at h
  split at h
  · cases ry
    have q := Res.post.now S h _ (.bl _)
    cases rx <;> exact ⟨rfl, q⟩
  · exact h.elim
theorem me_notN (ha : PE X a (tM X.K cl W fa)) (hb : PE X b (tM X.K cl W fb)) : PE X (.Compare a [.IsNot] [b] pos) (tM X.K cl W (mOp oNotN fa fb)) := by
  refine me_cmp (OpW.of op_notN fun ρ st H x y v w Q S rx ry h => ?_) (fun x y st e s' h => by unfold oNotN at h; split at h <;> cases h) ha hb
  unfold oNotN at h
  split at h
  · cases ry
    have q := Res.post.now S h _ (.bl _)
    cases rx <;> exact ⟨rfl, q⟩
  · exact h.elim

def mTru (f : ME) : MT := fun σ st => (f σ st).bind fun x st1 => match truP x st1 with
  | some b => .ok b st1
  | none => .stuck
theorem tru_at {ρ : Rho} {st : Sto} {H : Hp} {x : PV} {v : V} {b : Bool} {K : PySem.W.Frag} (S : Sim K cl ρ st H) (rx : RelP K ρ H x v) (h : truP x st = some b) : TruV K v H b ∨ ∃ a kvs, v = .ref a ∧ Rd H a (.dK kvs) ∧ b = !kvs.isEmpty := by
  have emp : ∀ {xs : List PV} {vs : List V}, RelPs K ρ H xs vs → (!xs.isEmpty) = !vs.isEmpty := fun r => by cases r <;> rfl
  have empk : ∀ {xs : List (PV × PV)} {vs : List (Key × V)}, RelDk K ρ H xs vs → (!xs.isEmpty) = !vs.isEmpty := fun r => by cases r <;> rfl
  unfold truP at h
  split at h
  · cases h; cases rx; exact .inl rfl
  · cases h; cases rx; exact .inl rfl
  · cases h; cases rx; exact .inl rfl
  · split at h
    · next hz => cases h; cases rx; exact .inl ⟨sz_ok hz, rfl⟩
    · cases h
  · cases h
    cases rx with
    | tup hq r => exact .inl (.inr (.inl ⟨_, SqT.of hq, emp r⟩))
  · cases h
    cases rx with
    | ktp hq r => exact .inl (.inr (.inl ⟨_, hq.sq, emp r⟩))
  · cases h
    cases rx with
    | rls hq r => exact .inl (.inl ⟨_, hq.sql, emp r⟩)
  · split at h
    · next e =>
      cases h
      cases rx with
      | ref hr =>
        obtain ⟨vs, q, r⟩ := S.at_ hr e
        exact .inl (.inl ⟨_, SqL.of q, emp r⟩)
    · next kvs lk e =>
      cases rx with
      | ref hr =>
        obtain ⟨u, r, q⟩ := S.at_ hr e
        have rd : ∀ {a : Addr} {w : HO}, (if lk = true then ∃ o, H a = some (.frz o w) else H a = some w) → Rd H a w := fun {a w} q => by
          split at q
          · obtain ⟨z, q⟩ := q; exact .inr ⟨z, q⟩
          · exact .inl q
        cases kvs with
        | nil =>
          have hb : b = false := Option.some.inj h.symm
          subst hb
          rcases r with ⟨vs, rfl, r⟩ | ⟨ne, _⟩
          · exact .inr ⟨_, vs, rfl, rd q, (empk r : (!([] : List (PV × PV)).isEmpty) = !vs.isEmpty)⟩
          · exact absurd rfl ne
        | cons p t =>
          obtain ⟨k, y⟩ := p
          have h : (if (keyK k).isSome = true then some true else none) = some b := h
          split at h
          · next hk =>
            have hb : b = true := Option.some.inj h.symm
            subst hb
            rcases r with ⟨vs, rfl, r⟩ | ⟨ne, vs, rfl, r⟩
            · exact .inr ⟨_, vs, rfl, rd q, empk r⟩
            · cases r with
              | cons hk2 _ _ => cases k <;> first | cases hk2 | simp [keyK] at hk
          · cases h
    · cases h
  · cases h
theorem tru_run {pins : List (Addr × Obj)} {s : Shared} {σ : L2.St} {H : Hp} {ρ : Rho} {st : Sto} {x : PV} {v : V} {u : Value} {b : Bool} {Q : Bool → Hp → Prop} (I : Inv X pins σ H s) (S : Sim X.K cl ρ st H) (rx : RelP X.K ρ H x v) (rv : RelV v u) (h : truP x st = some b) (q : Q b H) :
    wpAny (model X.prog X.w) X.A (truthy u) (TP X pins σ Q) X.xe s := by
  rcases tru_at S rx h with h1 | ⟨a, kvs, rfl, h1, rfl⟩
  · exact tru_ok pins s σ H v u Q I rv ⟨b, h1, q⟩
  · cases rv
    exact d_truth I h1 fun s' I' => ⟨H, I', q⟩
/-- any expression as a test by its value's truth -/
theorem mt_of (ha : PE X a (tM X.K cl W fa)) (he : ∀ whole, isTrue a X.env whole = (do let v ← whole; standAt a.pos; holding [v] (truthy v)) := by intro _; rfl) : PT X a (tMT X.K cl W (mTru fa)) := by
  refine ⟨fun pins s σ H Q I ⟨ρ, st, σp, S, rs, h⟩ => ?_⟩
  refine PyProof.Rows.isTrue_plain (thn (ha.run pins s σ H (fun v H1 => ∃ ρ1 st1 x b, Sim X.K cl ρ1 st1 H1 ∧ RelP X.K ρ1 H1 x v ∧ truP x st1 = some b ∧ Q b H1) I ⟨ρ, st, σp, S, rs, Res.post.imp h.bind (fun x st1 ρ1 H1 l1 e1 s1 h1 v rv => ?_) fun _ _ _ z => z⟩) fun vu s1 ⟨v, H1, I1, r1, ρ1, st1, x, b, S1, rx, e, q⟩ => tru_run I1 S1 rx r1 e q) (he _)
  split at h1
  · next b e => exact ⟨ρ1, st1, x, b, s1, rv, e, Res.post.now s1 h1⟩
  · exact h1.elim
end
end MP
set_option Elab.async false
set_option linter.all false
set_option maxRecDepth 100000
set_option maxHeartbeats 2000000
namespace MP
open PySem PySem.Spec L2
section
variable {X : Cx} {cl : CT} {W : WX} {a b c : Expr} {fa fb fc : ME} {ga gb : MT} {pos : Pos}
/-- what is known behind a part: for the part's continuation -/
abbrev Beh (X : Cx) (cl : CT) (W : WX) (σp : Sl) (σ : L2.St) (k : PV → Sto → Rho → Hp → Prop) : VK := fun v H1 => ∃ ρ1 st1 x, Sim X.K cl ρ1 st1 H1 ∧ RelS X.K ρ1 H1 σp σ ∧ RelP X.K ρ1 H1 x v ∧ k x st1 ρ1 H1
theorem tM.beh {σp : Sl} {σ : L2.St} {H : Hp} {ρ : Rho} {st : Sto} {f : ME} {k : PV → Sto → Rho → Hp → Prop} (S : Sim X.K cl ρ st H) (rs : RelS X.K ρ H σp σ) (h : (f σp st).post X.K cl ρ H k fun C d H' => W C d σ H') : tM X.K cl W f σ H (Beh X cl W σp σ k) :=
  ⟨ρ, st, σp, S, rs, Res.post.imp h (fun x st1 ρ1 H1 l1 e1 s1 h1 v rv => ⟨ρ1, st1, x, s1, rs.mono l1 e1, rv, h1⟩) fun _ _ _ z => z⟩
abbrev BehT (X : Cx) (cl : CT) (W : WX) (σp : Sl) (σ : L2.St) (k : Bool → Sto → Rho → Hp → Prop) : Bool → Hp → Prop := fun c H1 => ∃ ρ1 st1, Sim X.K cl ρ1 st1 H1 ∧ RelS X.K ρ1 H1 σp σ ∧ k c st1 ρ1 H1
theorem tMT.beh {σp : Sl} {σ : L2.St} {H : Hp} {ρ : Rho} {st : Sto} {f : MT} {k : Bool → Sto → Rho → Hp → Prop} (S : Sim X.K cl ρ st H) (rs : RelS X.K ρ H σp σ) (h : (f σp st).post X.K cl ρ H k fun C d H' => W C d σ H') : tMT X.K cl W f σ H (BehT X cl W σp σ k) :=
  ⟨ρ, st, σp, S, rs, Res.post.imp h (fun x st1 ρ1 H1 l1 e1 s1 h1 => ⟨ρ1, st1, s1, rs.mono l1 e1, h1⟩) fun _ _ _ z => z⟩

/-- a comparison as a test -/
theorem mt_cmp {op : CmpOp} {g : PV → PV → Sto → Res PV} (ho : OpW X cl (compareOp op) g) (hc : Calm2 g) (ha : PE X a (tM X.K cl W fa)) (hb : PE X b (tM X.K cl W fb)) (hk : behindInMarks op b = false := by first | exact nomark _ | rfl) :
    PT X (.Compare a [op] [b] pos) (tMT X.K cl W (mTru (mOp g fa fb))) := by
  refine ⟨fun pins s σ H Q I ⟨ρ, st, σp, S, rs, h⟩ => wpAny_isTrue_Compare1 ?_ hk⟩
  have h1 := Res.post.bind (Res.post.bind h)
  refine thn (ha.run pins s σ H _ I (tM.beh S rs (Res.post.bind (show ((fa σp st).bind fun x st1 => (fb σp st1).bind fun y st2 => g x y st2).post X.K cl ρ H _ _ from Res.post.bind h)))) fun vu s1 ⟨v, H1, I1, r1, ρ1, st1, x, S1, rs1, rx, h1⟩ => ?_
  refine thn (hb.run pins s1 σ H1 _ I1 (tM.beh S1 rs1 (Res.post.imp (Res.post.bind h1) (fun y st2 ρ2 H2 l2 e2 s2 h2 => (⟨rx.mono l2 e2, h2⟩ : RelP X.K ρ2 H2 x v ∧ _)) fun _ _ _ z => z))) fun wu s2 ⟨w, H2, I2, r2, ρ2, st2, y, S2, rs2, ry2, rx2, h2⟩ => ?_
  refine thn (ho pins s2 σ H2 ρ2 st2 x y v w vu wu (fun z H3 => ∃ ρ3 st3 q b, Sim X.K cl ρ3 st3 H3 ∧ RelP X.K ρ3 H3 q z ∧ truP q st3 = some b ∧ Q b H3) I2 S2 rx2 ry2 r1 r2 (Res.post.imp (post_calm (E' := NoE) (hc x y st2) h2) (fun q st3 ρ3 H3 l3 e3 s3 h3 z rz => ?_) fun _ _ _ z => z)) fun zu s3 ⟨z, H3, I3, r3, ρ3, st3, q, b, S3, rq, e, hq⟩ => tru_run I3 S3 rq r3 e hq
  split at h3
  · next b e => exact ⟨ρ3, st3, q, b, s3, rz, e, Res.post.now s3 h3⟩
  · exact h3.elim

def mAndT (ga gb : MT) : MT := fun σ st => (ga σ st).bind fun c st1 => if c = true then gb σ st1 else .ok false st1
def mOrT (ga gb : MT) : MT := fun σ st => (ga σ st).bind fun c st1 => if c = true then .ok true st1 else gb σ st1
def mNotT (ga : MT) : MT := fun σ st => (ga σ st).bind fun c st1 => .ok (!c) st1
theorem _root_.L2.PW.imp {X : Cx} {e : Expr} {t t' : TT} (h : PW X e t) (i : ∀ σ H Q, t' σ H Q → t σ H Q) : PW X e t' := ⟨fun wh pins s σ H Q I q => h.run wh pins s σ H Q I (i σ H Q q)⟩
theorem mw_and1 (ha : PT X a (tMT X.K cl W ga)) : PW X (.BoolOp .And [a] pos) (tMT X.K cl W ga) := pw_and1 ha
theorem mw_or1 (ha : PT X a (tMT X.K cl W ga)) : PW X (.BoolOp .Or [a] pos) (tMT X.K cl W ga) := pw_or1 ha
theorem mw_and {rest : List Expr} (ha : PT X a (tMT X.K cl W ga)) (hb : PW X (.BoolOp .And (b :: rest) pos) (tMT X.K cl W gb)) : PW X (.BoolOp .And (a :: b :: rest) pos) (tMT X.K cl W (mAndT ga gb)) :=
  (pw_and ha hb).imp fun σ H Q ⟨ρ, st, σp, S, rs, h⟩ => by
    refine ⟨ρ, st, σp, S, rs, Res.post.imp (Res.post.bind h) (fun c st1 ρ1 H1 l1 e1 s1 h1 => ?_) fun _ _ _ z => z⟩
    cases c with
    | true => exact iteT ⟨ρ1, st1, σp, s1, rs.mono l1 e1, h1⟩
    | false => exact iteF (Res.post.now s1 h1)
theorem mw_or {rest : List Expr} (ha : PT X a (tMT X.K cl W ga)) (hb : PW X (.BoolOp .Or (b :: rest) pos) (tMT X.K cl W gb)) : PW X (.BoolOp .Or (a :: b :: rest) pos) (tMT X.K cl W (mOrT ga gb)) :=
  (pw_or ha hb).imp fun σ H Q ⟨ρ, st, σp, S, rs, h⟩ => by
    refine ⟨ρ, st, σp, S, rs, Res.post.imp (Res.post.bind h) (fun c st1 ρ1 H1 l1 e1 s1 h1 => ?_) fun _ _ _ z => z⟩
    cases c with
    | false => exact iteF ⟨ρ1, st1, σp, s1, rs.mono l1 e1, h1⟩
    | true => exact iteT (Res.post.now s1 h1)
theorem mt_not (ha : PT X a (tMT X.K cl W ga)) : PT X (.UnaryOp .Not a pos) (tMT X.K cl W (mNotT ga)) := (pt_not ha).imp fun σ H Q ⟨ρ, st, σp, S, rs, h⟩ =>
  ⟨ρ, st, σp, S, rs, Res.post.imp (Res.post.bind h) (fun c st1 ρ1 H1 l1 e1 s1 h1 => Res.post.now s1 h1) fun _ _ _ z => z⟩
def mAnd (fa fb : ME) : ME := fun σ st => (fa σ st).bind fun x st1 => match truP x st1 with
  | some true => fb σ st1
  | some false => .ok x st1
  | none => .stuck
def mOr (fa fb : ME) : ME := fun σ st => (fa σ st).bind fun x st1 => match truP x st1 with
  | some true => .ok x st1
  | some false => fb σ st1
  | none => .stuck
def mNot (fa : ME) : ME := fun σ st => (fa σ st).bind fun x st1 => match truP x st1 with
  | some b => .ok (.bl (!b)) st1
  | none => .stuck
theorem me_one {op} {f : ME} (ha : PE X a (tM X.K cl W f)) : PE X (.BoolOp op [a] pos) (tM X.K cl W f) := pe_one ha
theorem me_and {rest : List Expr} (ha : PE X a (tM X.K cl W fa)) (hb : PE X (.BoolOp .And (b :: rest) pos) (tM X.K cl W fb)) : PE X (.BoolOp .And (a :: b :: rest) pos) (tM X.K cl W (mAnd fa fb)) := by
  refine ⟨fun pins s σ H Q I ⟨ρ, st, σp, S, rs, h⟩ => ?_⟩
  refine PyProof.Rows.BoolOp_and (thn (ha.run pins s σ H _ I (tM.beh S rs (Res.post.bind h))) fun vu s1 ⟨v, H1, I1, r1, ρ1, st1, x, S1, rs1, rx, h1⟩ => ?_)
  dsimp only at h1
  split at h1
  · next e =>
    refine thn (tru_run (Q := fun c H2 => c = true ∧ H2 = H1) I1 S1 rx r1 e ⟨rfl, rfl⟩) fun c s2 ⟨H2, I2, e1, e2⟩ => ?_
    subst e1 e2
    exact hb.run pins s2 σ _ Q I2 ⟨ρ1, st1, σp, S1, rs1, h1⟩
  · next e =>
    refine thn (tru_run (Q := fun c H2 => c = false ∧ H2 = H1) I1 S1 rx r1 e ⟨rfl, rfl⟩) fun c s2 ⟨H2, I2, e1, e2⟩ => ?_
    subst e1 e2
    exact ⟨v, _, I2, r1, Res.post.now S1 h1 v rx⟩
  · exact h1.elim
theorem me_or {rest : List Expr} (ha : PE X a (tM X.K cl W fa)) (hb : PE X (.BoolOp .Or (b :: rest) pos) (tM X.K cl W fb)) : PE X (.BoolOp .Or (a :: b :: rest) pos) (tM X.K cl W (mOr fa fb)) := by
  refine ⟨fun pins s σ H Q I ⟨ρ, st, σp, S, rs, h⟩ => ?_⟩
  refine PyProof.Rows.BoolOp_or (thn (ha.run pins s σ H _ I (tM.beh S rs (Res.post.bind h))) fun vu s1 ⟨v, H1, I1, r1, ρ1, st1, x, S1, rs1, rx, h1⟩ => ?_)
  dsimp only at h1
  split at h1
  · next e =>
    refine thn (tru_run (Q := fun c H2 => c = true ∧ H2 = H1) I1 S1 rx r1 e ⟨rfl, rfl⟩) fun c s2 ⟨H2, I2, e1, e2⟩ => ?_
    subst e1 e2
    exact ⟨v, _, I2, r1, Res.post.now S1 h1 v rx⟩
  · next e =>
    refine thn (tru_run (Q := fun c H2 => c = false ∧ H2 = H1) I1 S1 rx r1 e ⟨rfl, rfl⟩) fun c s2 ⟨H2, I2, e1, e2⟩ => ?_
    subst e1 e2
    exact hb.run pins s2 σ _ Q I2 ⟨ρ1, st1, σp, S1, rs1, h1⟩
  · exact h1.elim
theorem me_not (ha : PE X a (tM X.K cl W fa)) : PE X (.UnaryOp .Not a pos) (tM X.K cl W (mNot fa)) := by
  refine ⟨fun pins s σ H Q I ⟨ρ, st, σp, S, rs, h⟩ => ?_⟩
  refine PyProof.Rows.UnaryOp_ (thn (ha.run pins s σ H _ I (tM.beh S rs (Res.post.bind h))) fun vu s1 ⟨v, H1, I1, r1, ρ1, st1, x, S1, rs1, rx, h1⟩ => ?_)
  dsimp only at h1
  split at h1
  · next b e =>
    exact PyProof.Rows.not_of (thn (tru_run (Q := fun c H2 => Q (.bl (!c)) H2) I1 S1 rx r1 e (Res.post.now S1 h1 _ (.bl _))) fun c s2 ⟨H2, I2, q2⟩ => ⟨.bl (!c), H2, I2, rfl, q2⟩)
  · exact h1.elim
/-- a if t else b -/
def mIf (g : MT) (fa fb : ME) : ME := fun σ st => (g σ st).bind fun c st1 => if c = true then fa σ st1 else fb σ st1
theorem me_if (hc : PT X c (tMT X.K cl W ga)) (ha : PE X a (tM X.K cl W fa)) (hb : PE X b (tM X.K cl W fb)) : PE X (.IfExp c a b pos) (tM X.K cl W (mIf ga fa fb)) :=
  (pe_ifExp hc ha hb).imp fun σ H Q ⟨ρ, st, σp, S, rs, h⟩ => by
    refine ⟨ρ, st, σp, S, rs, Res.post.imp (Res.post.bind h) (fun c st1 ρ1 H1 l1 e1 s1 h1 => ?_) fun _ _ _ z => z⟩
    cases c with
    | true => exact iteT ⟨ρ1, st1, σp, s1, rs.mono l1 e1, h1⟩
    | false => exact iteF ⟨ρ1, st1, σp, s1, rs.mono l1 e1, h1⟩
/-- a op b op' c, of ints -/
def mChain (g g' : PV → PV → Sto → Res PV) (fa fb fc : ME) : ME := fun σ st => (fa σ st).bind fun x st1 => (fb σ st1).bind fun y st2 => (g x y st2).bind fun z st3 => match z with
  | .bl true => (fc σ st3).bind fun w st4 => g' y w st4
  | .bl false => .ok (.bl false) st3
  | _ => .stuck
theorem tM_chain {r r' : R2} {g g' : PV → PV → Sto → Res PV} (hm : Op2 X.K cl r g) (hc : Calm2 g) (hm' : Op2 X.K cl r' g') (hc' : Calm2 g') {σ : L2.St} {H : Hp} {Q : VK} (h : tM X.K cl W (mChain g g' fa fb fc) σ H Q) :
    tChain r r' (tM X.K cl W fa) (tM X.K cl W fb) (tM X.K cl W fc) σ H Q := by
  obtain ⟨ρ, st, σp, S, rs, h⟩ := h
  refine ⟨ρ, st, σp, S, rs, Res.post.imp (Res.post.bind h) (fun x st1 ρ1 H1 l1 e1 s1 h1 v rv => ?_) fun _ _ _ z => z⟩
  refine ⟨ρ1, st1, σp, s1, rs.mono l1 e1, Res.post.imp (Res.post.bind h1) (fun y st2 ρ2 H2 l2 e2 s2 h2 w rw' => ?_) fun _ _ _ z => z⟩
  refine hm ρ2 st2 H2 x y v w _ s2 (rv.mono l2 e2) rw' (Res.post.imp (post_calm (E' := NoE) (hc x y st2) (Res.post.bind h2)) (fun z st3 ρ3 H3 l3 e3 s3 h3 u ru => ?_) fun _ _ _ z => z)
  split at h3
  · cases ru
    refine ⟨true, rfl, iteT ⟨ρ3, st3, σp, s3, ((rs.mono l1 e1).mono l2 e2).mono l3 e3, Res.post.imp (Res.post.bind h3) (fun q st4 ρ4 H4 l4 e4 s4 h4 u' ru' => ?_) fun _ _ _ z => z⟩⟩
    exact hm' ρ4 st4 H4 y q w u' Q s4 ((rw'.mono l3 e3).mono l4 e4) ru' (post_calm (hc' y q st4) h4)
  · cases ru
    exact ⟨false, rfl, iteF (Res.post.now s3 h3 _ (.bl _))⟩
  · exact h3.elim
theorem me_chain {op op' : CmpOp} {r r' : R2} {g g' : PV → PV → Sto → Res PV} (ho : OpR X (compareOp op) r) (hm : Op2 X.K cl r g) (hc : Calm2 g) (ho' : OpR X (compareOp op') r') (hm' : Op2 X.K cl r' g') (hc' : Calm2 g')
    (ha : PE X a (tM X.K cl W fa)) (hb : PE X b (tM X.K cl W fb)) (hcc : PE X c (tM X.K cl W fc)) (hk : lastMarks [op, op'] [b, c] = false := by with_unfolding_all rfl) : PE X (.Compare a [op, op'] [b, c] pos) (tM X.K cl W (mChain g g' fa fb fc)) :=
  (pe_chain ho ho' ha hb hcc hk).imp fun _ _ _ h => tM_chain hm hc hm' hc' h
def mTstB (f : ME) : MT := fun σ st => (f σ st).bind fun x st1 => match x with
  | .bl b => .ok b st1
  | _ => .stuck
theorem mt_chain {op op' : CmpOp} {r r' : R2} {g g' : PV → PV → Sto → Res PV} (ho : OpR X (compareOp op) r) (hm : Op2 X.K cl r g) (hc : Calm2 g) (ho' : OpR X (compareOp op') r') (hm' : Op2 X.K cl r' g') (hc' : Calm2 g')
    (ha : PE X a (tM X.K cl W fa)) (hb : PE X b (tM X.K cl W fb)) (hcc : PE X c (tM X.K cl W fc)) (hk : lastMarks [op, op'] [b, c] = false := by with_unfolding_all rfl) : PT X (.Compare a [op, op'] [b, c] pos) (tMT X.K cl W (mTstB (mChain g g' fa fb fc))) :=
  (pt_chain ho ho' ha hb hcc hk).imp fun σ H Q ⟨ρ, st, σp, S, rs, h⟩ => by
    show tChain r r' _ _ _ σ H _
    refine tM_chain hm hc hm' hc' ⟨ρ, st, σp, S, rs, Res.post.imp (Res.post.bind h) (fun x st1 ρ1 H1 l1 e1 s1 h1 v rv => ?_) fun _ _ _ z => z⟩
    split at h1
    · cases rv
      exact ⟨_, rfl, Res.post.now s1 h1⟩
    · exact h1.elim
theorem o2_lt : Op2 X.K cl (rI0 fun i j => .bl (decide (i < j))) oLt := op2_I0 fun _ _ _ _ => .bl _
theorem o2_le : Op2 X.K cl (rI0 fun i j => .bl (decide (i ≤ j))) oLe := op2_I0 fun _ _ _ _ => .bl _
theorem me_lele (ha : PE X a (tM X.K cl W fa)) (hb : PE X b (tM X.K cl W fb)) (hcc : PE X c (tM X.K cl W fc)) (hk : lastMarks [CmpOp.LtE, CmpOp.LtE] [b, c] = false := by with_unfolding_all rfl) : PE X (.Compare a [.LtE, .LtE] [b, c] pos) (tM X.K cl W (mChain oLe oLe fa fb fc)) := me_chain op_le o2_le calm_II op_le o2_le calm_II ha hb hcc hk
theorem mt_lele (ha : PE X a (tM X.K cl W fa)) (hb : PE X b (tM X.K cl W fb)) (hcc : PE X c (tM X.K cl W fc)) (hk : lastMarks [CmpOp.LtE, CmpOp.LtE] [b, c] = false := by with_unfolding_all rfl) : PT X (.Compare a [.LtE, .LtE] [b, c] pos) (tMT X.K cl W (mTstB (mChain oLe oLe fa fb fc))) := mt_chain op_le o2_le calm_II op_le o2_le calm_II ha hb hcc hk
theorem me_lelt (ha : PE X a (tM X.K cl W fa)) (hb : PE X b (tM X.K cl W fb)) (hcc : PE X c (tM X.K cl W fc)) (hk : lastMarks [CmpOp.LtE, CmpOp.Lt] [b, c] = false := by with_unfolding_all rfl) : PE X (.Compare a [.LtE, .Lt] [b, c] pos) (tM X.K cl W (mChain oLe oLt fa fb fc)) := me_chain op_le o2_le calm_II op_lt o2_lt calm_II ha hb hcc hk
theorem mt_lelt (ha : PE X a (tM X.K cl W fa)) (hb : PE X b (tM X.K cl W fb)) (hcc : PE X c (tM X.K cl W fc)) (hk : lastMarks [CmpOp.LtE, CmpOp.Lt] [b, c] = false := by with_unfolding_all rfl) : PT X (.Compare a [.LtE, .Lt] [b, c] pos) (tMT X.K cl W (mTstB (mChain oLe oLt fa fb fc))) := mt_chain op_le o2_le calm_II op_lt o2_lt calm_II ha hb hcc hk

def mNil : MEs := fun _ st => .ok [] st
def mCons (f : ME) (g : MEs) : MEs := fun σ st => (f σ st).bind fun x st1 => (g σ st1).bind fun xs st2 => .ok (x :: xs) st2
theorem ma_nil : PA X [] (tMA X.K cl W mNil) := pa_nil.imp fun σ H Q ⟨ρ, st, σp, S, rs, h⟩ => Res.post.now S h _ .nil
theorem ma_cons {es : List Expr} {g : MEs} (ha : PE X a (tM X.K cl W fa)) (hr : PA X es (tMA X.K cl W g)) (hs : starEach (a :: es) X.env = (false, eval a X.env) :: starEach es X.env := by rfl) : PA X (a :: es) (tMA X.K cl W (mCons fa g)) :=
  (pa_cons ha hr hs).imp fun σ H Q ⟨ρ, st, σp, S, rs, h⟩ => by
    refine ⟨ρ, st, σp, S, rs, Res.post.imp (Res.post.bind h) (fun x st1 ρ1 H1 l1 e1 s1 h1 v rv => ?_) fun _ _ _ z => z⟩
    refine ⟨ρ1, st1, σp, s1, rs.mono l1 e1, Res.post.imp (Res.post.bind h1) (fun xs st2 ρ2 H2 l2 e2 s2 h2 vs rvs => ?_) fun _ _ _ z => z⟩
    exact Res.post.now s2 h2 _ (.cons (rv.mono l2 e2) rvs)
def mTup (g : MEs) : ME := fun σ st => (g σ st).bind fun xs st1 => if sz xs.length then .ok (.tup xs) st1 else .stuck
def mLst (g : MEs) : ME := fun σ st => (g σ st).bind fun xs st1 => if sz xs.length then mkNew (.lst xs) st1 else .stuck
theorem me_tup {es : List Expr} {g : MEs} {k} (h : PA X es (tMA X.K cl W g)) : PE X (.Tuple es k pos) (tM X.K cl W (mTup g)) := (pe_tup h).imp fun σ H Q ⟨ρ, st, σp, S, rs, h⟩ => by
  refine ⟨ρ, st, σp, S, rs, Res.post.imp (Res.post.bind h) (fun xs st1 ρ1 H1 l1 e1 s1 h1 vs rv => ?_) fun _ _ _ z => z⟩
  split at h1
  · next hz => exact ⟨by rw [← rv.length]; exact sz_ok hz, fun p hp => new_tup s1 hp rv h1⟩
  · exact h1.elim
theorem me_lst {es : List Expr} {g : MEs} (h : PA X es (tMA X.K cl W g)) : PE X (.List es pos) (tM X.K cl W (mLst g)) := (pe_lst h).imp fun σ H Q ⟨ρ, st, σp, S, rs, h⟩ => by
  refine ⟨ρ, st, σp, S, rs, Res.post.imp (Res.post.bind h) (fun xs st1 ρ1 H1 l1 e1 s1 h1 vs rv => ?_) fun _ _ _ z => z⟩
  split at h1
  · next hz => exact ⟨by rw [← rv.length]; exact sz_ok hz, fun p hp => new_lst s1 hp rv h1⟩
  · exact h1.elim
/-- {} -/
def mDict0 : ME := fun _ st => mkNew (.dct [] false) st
theorem me_dict0 : PE X (.Dict [] [] pos) (tM X.K cl W mDict0) := pe_dnewK.imp fun σ H Q ⟨ρ, st, σp, S, rs, h⟩ p hp =>
  post_ok_new (o := .dct [] false) (u := .dK []) S hp ⟨_, .inl ⟨[], rfl, .nil⟩, upd_same⟩ h _ rel_new
end
end MP
set_option Elab.async false
set_option linter.all false
set_option maxRecDepth 100000
set_option maxHeartbeats 2000000
namespace MP
open PySem PySem.Spec L2
theorem RelFs.look {K : PySem.W.Frag} {ρ : Rho} {H : Hp} {xs : List (Str × PV)} {vs : List (Str × V)} (h : RelFs K ρ H xs vs) {f : Str} {x : PV} (e : xs.lookup f = some x) : ∃ v, vs.lookup f = some v ∧ RelP K ρ H x v := by
  induction h with
  | nil => cases e
  | @cons g y v xs vs h t ih =>
    rw [List.lookup_cons] at e ⊢
    cases hb : (f == g) with
    | true => rw [hb] at e; cases e; exact ⟨v, rfl, h⟩
    | false => rw [hb] at e; exact ih e
theorem RelFs.miss {K : PySem.W.Frag} {ρ : Rho} {H : Hp} {xs : List (Str × PV)} {vs : List (Str × V)} (h : RelFs K ρ H xs vs) {f : Str} (e : ∀ p ∈ xs, p.1 ≠ f) : vs.lookup f = none := by
  induction h with
  | nil => rfl
  | @cons g y v xs vs h t ih =>
    rw [List.lookup_cons]
    have : (f == g) = false := beq_eq_false_iff_ne.mpr fun z => e (g, y) List.mem_cons_self z.symm
    rw [this]
    exact ih fun p hp => e p (List.mem_cons_of_mem _ hp)
theorem RelFs.length {K : PySem.W.Frag} {ρ : Rho} {H : Hp} {xs : List (Str × PV)} {vs : List (Str × V)} (h : RelFs K ρ H xs vs) : xs.length = vs.length := by
  induction h with
  | nil => rfl
  | cons _ _ ih => rw [List.length_cons, List.length_cons, ih]
/-- an attribute is set -/
def putP (f : Str) (v : PV) : List (Str × PV) → List (Str × PV)
  | [] => [(f, v)]
  | (g, x) :: r => if g = f then (g, v) :: r else (g, x) :: putP f v r
theorem RelFs.put {K : PySem.W.Frag} {ρ : Rho} {H : Hp} {xs : List (Str × PV)} {vs : List (Str × V)} (h : RelFs K ρ H xs vs) (f : Str) {x : PV} {v : V} (r : RelP K ρ H x v) : RelFs K ρ H (putP f x xs) (putF f v vs) := by
  induction h with
  | nil => exact .cons r .nil
  | @cons g y w xs vs h t ih =>
    unfold putP putF
    by_cases e : g = f
    · rw [if_pos e, if_pos e]; exact .cons r t
    · rw [if_neg e, if_neg e]; exact .cons h ih
theorem putP_fld {f : Str} {v : PV} {l : List Str} (hf : f ∈ l) : ∀ {xs : List (Str × PV)}, (∀ p ∈ xs, p.1 ∈ l) → ∀ p ∈ putP f v xs, p.1 ∈ l
  | [], _, p, hp => by
    rw [putP, List.mem_singleton] at hp
    subst hp
    exact hf
  | (g, x) :: r, h, p, hp => by
    unfold putP at hp
    by_cases e : g = f
    · rw [if_pos e] at hp
      rcases List.mem_cons.mp hp with rfl | hp
      · rw [show g = f from e]; exact hf
      · exact h p (List.mem_cons_of_mem _ hp)
    · rw [if_neg e] at hp
      rcases List.mem_cons.mp hp with rfl | hp
      · exact h _ List.mem_cons_self
      · exact putP_fld hf (fun q hq => h q (List.mem_cons_of_mem _ hq)) p hp
/-- an instance of the class c at a value -/
def insOf (c : Nat) (x : PV) (st : Sto) : Option (Nat × List (Str × PV)) := match x with
  | .ref n => match st.get n with
    | some (.ins c' fs) => if c' = c then some (n, fs) else none
    | _ => none
  | _ => none
section
variable {X : Cx} {cl : CT} {W : WX} {a b c o e : Expr} {fa fb fc fo : ME} {ga gb : MT} {pos pos' apos : Pos}
theorem insOf_at {K : PySem.W.Frag} {ρ : Rho} {st : Sto} {H : Hp} {c n : Nat} {x : PV} {v : V} {fs : List (Str × PV)} (S : Sim K cl ρ st H) (r : RelP K ρ H x v) (h : insOf c x st = some (n, fs)) :
    ∃ a dx vs, v = .ref a ∧ x = .ref n ∧ ρ n = some a ∧ H a = some (.ins (cl.ad c) dx vs) ∧ RelFs K ρ H fs vs ∧ (∀ p ∈ fs, p.1 ∈ cl.fld c) ∧ st.get n = some (.ins c fs) := by
  unfold insOf at h
  split at h
  · next m =>
    split at h
    · next c' gs e =>
      split at h
      · next hc =>
        cases h
        subst hc
        cases r with
        | ref hr =>
          obtain ⟨dx, vs, q, r, z⟩ := S.at_ hr e
          exact ⟨_, dx, vs, rfl, rfl, hr, q, r, z, e⟩
      · cases h
    · cases h
  · cases h
/-- e.f, e an instance of the class c -/
def mFld (c : Nat) (f : Str) (fa : ME) : ME := fun σ st => (fa σ st).bind fun x st1 => match insOf c x st1 with
  | some (_, fs) => match fs.lookup f with
    | some v => .ok v st1
    | none => .stuck
  | none => .stuck
theorem me_fld {c : Nat} {f : Str} (cC : Cls X.K (cl.ad c)) (na : NoAttr X.K (cl.ad c) f) (ha : PE X a (tM X.K cl W fa)) (hb : attributeBase a f X.env (eval a X.env) = eval a X.env := by rfl) : PE X (.Attribute a f pos) (tM X.K cl W (mFld c f fa)) :=
  (pe_fld ha hb).imp fun σ H Q ⟨ρ, st, σp, S, rs, h⟩ => by
    refine ⟨ρ, st, σp, S, rs, Res.post.imp (Res.post.bind h) (fun x st1 ρ1 H1 l1 e1 s1 h1 v rv => ?_) fun _ _ _ z => z⟩
    split at h1
    · next n fs e =>
      split at h1
      · next y ey =>
        obtain ⟨b, dx, vs, rfl, rfl, hr, hq, rf, _, _⟩ := insOf_at s1 rv e
        obtain ⟨w, hw, rw'⟩ := rf.look ey
        exact ⟨b, _, dx, vs, w, rfl, hq, cC, na, hw, Res.post.now s1 h1 _ rw'⟩
      · exact h1.elim
    · exact h1.elim

/-- the promise that is a pure function -/
def spM (K : PySem.W.Frag) (cl : CT) (n : Nat) (m : List PV → Sto → Res PV) : Sp := fun vs H Q E => ∃ ρ st args, Sim K cl ρ st H ∧ RelPs K ρ H args vs ∧ args.length = n ∧ (m args st).post K cl ρ H (Val K Q) E
theorem spM_len {K : PySem.W.Frag} {n : Nat} {m : List PV → Sto → Res PV} (vs : List V) (H : Hp) (Q : VK) (E : XK) (h : spM K cl n m vs H Q E) : vs.length = n := by
  obtain ⟨_, _, args, _, r, l, _⟩ := h
  rw [← r.length]; exact l
/-- a def's call, by values: us positional, ws by name -/
theorem run_any {σ : L2.St} {pins : List (Addr × Obj)} {H : Hp} {s : Shared} {Q : VK} {us ws : List Value} {vs zs : List V} {k n : Nat} {f : Addr} {fd : FuncData} {ps ks : List Str} {sp : Sp} {g : List Value → List Value → List Value} {gV : List V → List V → List V}
    (F : FnOk X.prog X.w X.K X.mg X.base (L2.CX X.prog X.w) k f fd ps sp) (hr : Room k X.A) (hb : KBn X.K fd ps n ks g gV) (tk : Takes X W) (I : Inv X pins σ H s) (r : Vals vs us) (rz : Vals zs ws) (l1 : vs.length = n) (l2 : zs.length = ks.length)
    (h : sp (gV vs zs) H Q (WE W σ)) : wpAny (model X.prog X.w) X.A (call (.ref f) us (ks.zip ws)) (EP X pins σ Q) X.xe s := by
  refine wpAny_call (codeAny_mono (F.run X.A X.stack s H ⟨us, ks.zip ws⟩ (g us ws) (gV vs zs) Q (WE W σ) hr I.env0 (hb.to s us ws I.kIn (r.length.symm.trans l1) (rz.length.symm.trans l2)) (hb.rel r rz) h) fun r s' hq => ?_)
  cases r with
  | error e => exact passAt tk σ pins H s e s' I hq
  | ok fl =>
    cases fl with
    | ret u => exact I.after hq
    | next => exact False.elim hq
    | brk => exact False.elim hq
    | cont => exact False.elim hq
theorem run_makeS {σ : L2.St} {pins : List (Addr × Obj)} {H : Hp} {s : Shared} {Q : VK} {us ws : List Value} {vs zs : List V} {k n : Nat} {f C : Addr} {fd : FuncData} {ps ks : List Str} {sp : Sp} {g : List Value → List Value → List Value} {gV : List V → List V → List V}
    (M : Mk X.K C f) (F : FnOk X.prog X.w X.K X.mg X.base (L2.CX X.prog X.w) k f fd ps sp) (hr : Room (k + 1) X.A) (hb : KBn X.K fd ps (n + 1) ks g gV) (tk : Takes X W)
    (I : Inv X pins σ H s) (r : Vals vs us) (rz : Vals zs ws) (l1 : vs.length = n) (l2 : zs.length = ks.length)
    (h : ∀ x dx, H x = none → H dx = none → dx ≠ x → sp (gV (.ref x :: vs) zs) (upd (upd H dx (.own x)) x (.ins C dx [])) (fun v H2 => v = .non ∧ Q (.ref x) H2) (WE W σ)) :
    wpAny (model X.prog X.w) X.A (call (.ref C) us (ks.zip ws)) (EP X pins σ Q) X.xe s := by
  have hq := h (s.heap.objs.size + 1) s.heap.objs.size (I.hok.fresh (Nat.le_succ _)) (I.hok.fresh (Nat.le_refl _)) (Nat.ne_of_lt (Nat.lt_succ_self _))
  have I2 := Inv.made (C := C) I
  have r1 : Vals (V.ref (s.heap.objs.size + 1) :: vs) (Value.ref (s.heap.objs.size + 1) :: us) := .cons rfl r
  have r2 := hb.rel r1 rz
  have n1 : (Value.ref (s.heap.objs.size + 1) :: us).length = n + 1 := by
    rw [List.length_cons, ← r.length, l1]
  refine wpAny_call (make_map (f := f) I.kIn M.makes M.init (beq_iff_eq.mp M.fn) (codeAny_mono (F.run _ X.stack _ _ ⟨Value.ref (s.heap.objs.size + 1) :: us, ks.zip ws⟩ (g (Value.ref (s.heap.objs.size + 1) :: us) ws) _ _ (WE W σ) (hr.make C us (ks.zip ws))
    (I2.env0.make C us (ks.zip ws)) (hb.to _ (Value.ref (s.heap.objs.size + 1) :: us) ws I2.kIn n1 (rz.length.symm.trans l2)) r2 hq) fun r s' hq' => ?_))
  cases r with
  | error e => exact passAt tk σ pins _ _ e s' I2 hq'
  | ok fl =>
    cases fl with
    | ret u =>
      obtain ⟨v, H', I3, rv, ev, q3⟩ := I2.after hq'
      subst ev
      exact ⟨rv, ⟨V.ref (s.heap.objs.size + 1), H', I3, rfl, q3⟩⟩
    | next => exact False.elim hq'
    | brk => exact False.elim hq'
    | cont => exact False.elim hq'
/-- how the pure arguments are put in order: positional ones and those by name, with the defaults -/
structure KBp (K : PySem.W.Frag) (cl : CT) (fd : FuncData) (ps : List Str) (n : Nat) (ks : List Str) (gP : List PV → List PV → List PV) : Prop where
  ex : ∃ g gV, KBn K fd ps n ks g gV ∧ ∀ ρ H xs vs ys zs, xs.length = n → ys.length = ks.length → RelPs K ρ H xs vs → RelPs K ρ H ys zs → RelPs K ρ H (gP xs ys) (gV vs zs) ∧ (gP xs ys).length = ps.length
theorem KBp.plain {K : PySem.W.Frag} {fd : FuncData} {ps : List Str} (hb : Binds K fd ps []) : KBp K cl fd ps ps.length [] (fun xs _ => xs) := by
  refine ⟨fun us _ => us, fun vs _ => vs, ⟨fun s us ws X l1 l2 => ?_, fun r _ => r⟩, fun ρ H xs vs ys zs h1 _ h2 _ => ⟨h2, h1⟩⟩
  have b := hb s us X (by rw [List.append_nil]; exact l1)
  rw [List.append_nil] at b
  exact b
theorem KBp.dflt {K : PySem.W.Frag} {fd : FuncData} {ps : List Str} {ds : List Value} {dvs : List V} {dps : List PV} {n : Nat} (hb : Binds K fd ps ds) (hd : Vals dvs ds) (hp : ∀ ρ H, RelPs K ρ H dps dvs) (hn : n + dps.length = ps.length) : KBp K cl fd ps n [] (fun xs _ => xs ++ dps) := by
  refine ⟨fun us _ => us ++ ds, fun vs _ => vs ++ dvs, ⟨fun s us ws X l1 l2 => ?_, fun r _ => r.append hd⟩, fun ρ H xs vs ys zs h1 _ h2 _ => ⟨h2.append (hp ρ H), by rw [List.length_append, h1, hn]⟩⟩
  refine hb s us X ?_
  have e1 := hd.length
  have e2 := (hp (fun _ => none) (fun _ => none)).length
  rw [List.length_append]
  omega
/-- f(e, ..) -/
def mCall (m : List PV → Sto → Res PV) (gP : List PV → List PV → List PV) (g : MEs) : ME := fun σ st => (g σ st).bind fun xs st1 => m (gP xs []) st1
/-- the number of arguments of a written list -/
def Len (g : MEs) (n : Nat) : Prop := ∀ σ st xs st', g σ st = .ok xs st' → xs.length = n
theorem len_nil : Len mNil 0 := fun σ st xs st' h => by cases h; rfl
theorem len_cons {f : ME} {g : MEs} {n : Nat} (h : Len g n) : Len (mCons f g) (n + 1) := fun σ st xs st' e => by
  unfold mCons at e
  cases q : f σ st with
  | ok x s1 =>
    rw [q] at e
    dsimp only [Res.bind] at e
    cases q2 : g σ s1 with
    | ok ys s2 =>
      rw [q2] at e
      cases e
      rw [List.length_cons, h σ s1 ys _ q2]
    | err _ _ => rw [q2] at e; cases e
    | stuck => rw [q2] at e; cases e
  | err _ _ => rw [q] at e; cases e
  | stuck => rw [q] at e; cases e
abbrev BehA (X : Cx) (cl : CT) (W : WX) (σp : Sl) (σ : L2.St) (k : List PV → Sto → Rho → Hp → Prop) : List V → Hp → Prop := fun vs H1 => ∃ ρ1 st1 xs, Sim X.K cl ρ1 st1 H1 ∧ RelS X.K ρ1 H1 σp σ ∧ RelPs X.K ρ1 H1 xs vs ∧ k xs st1 ρ1 H1
theorem tMA.beh {σp : Sl} {σ : L2.St} {H : Hp} {ρ : Rho} {st : Sto} {f : MEs} {k : List PV → Sto → Rho → Hp → Prop} (S : Sim X.K cl ρ st H) (rs : RelS X.K ρ H σp σ) (h : (f σp st).post X.K cl ρ H k fun C d H' => W C d σ H') : tMA X.K cl W f σ H (BehA X cl W σp σ k) :=
  ⟨ρ, st, σp, S, rs, Res.post.imp h (fun x st1 ρ1 H1 l1 e1 s1 h1 v rv => ⟨ρ1, st1, x, s1, rs.mono l1 e1, rv, h1⟩) fun _ _ _ z => z⟩
/-- with the arguments' number -/
theorem post_len {K : PySem.W.Frag} {ρ : Rho} {H : Hp} {g : MEs} {n : Nat} {σp : Sl} {st : Sto} {P : List PV → Sto → Rho → Hp → Prop} {E : Value → Option Addr → Hp → Prop} (hl : Len g n) (h : (g σp st).post K cl ρ H P E) : (g σp st).post K cl ρ H (fun xs st' ρ' H' => xs.length = n ∧ P xs st' ρ' H') E := by
  have l := hl σp st
  cases q : g σp st with
  | ok xs s1 => rw [q] at h; exact fun ρ' H' l1 e1 z1 => ⟨l _ _ q, h ρ' H' l1 e1 z1⟩
  | err _ _ => rw [q] at h; exact h
  | stuck => rw [q] at h; exact h
variable {k n : Nat} {f : Addr} {fd : FuncData} {ps ks : List Str} {m : List PV → Sto → Res PV} {gP : List PV → List PV → List PV} {x : Str} {p : Pos} {es : List Expr} {g : MEs}
theorem me_call (F : FnOk X.prog X.w X.K X.mg X.base (L2.CX X.prog X.w) k f fd ps (spM X.K cl ps.length m)) (hr : Room k X.A) (hg : Gl X x) (hm : X.mg x = some (.ref f)) (hk : PySem.W.keepIn X.K (.ref f) = true) (hb : KBp X.K cl fd ps n [] gP) (tk : Takes X W)
    (ha : PA X (e :: es) (tMA X.K cl W g)) (hl : Len g n) (hdb : (x == ("__debug__" : Str)) = false := by decide) (he : starEach (e :: es) X.env = (false, eval e X.env) :: starEach es X.env := by rfl) (hpl : (backTo pos (starEach es X.env)).any (·.1) = false := by rfl) :
    PE X (.Call (.Name x p) (e :: es) [] pos) (tM X.K cl W (mCall m gP g)) := by
  refine ⟨fun pins s σ H Q I ⟨ρ, st, σp, S, rs, h⟩ => ?_⟩
  obtain ⟨gg, gV, hb, hG⟩ := hb.ex
  refine wpAny_Call_Name_kw (ld_glob I hg hm ?_ hdb)
  refine PySem.W.callWith_K (h₀ := X.base) I.ok.mod.kin hk (thn (ha.run pos pins s σ H _ I (tMA.beh S rs (post_len hl (Res.post.bind h)))) fun us s1 ⟨vs, H1, I1, r, ρ1, st1, xs, S1, rs1, rx, ln, h1⟩ => ⟨I1.kIn, ?_⟩) he hpl
  obtain ⟨q1, q2⟩ := hG ρ1 H1 xs vs [] [] ln rfl rx .nil
  exact run_any (zs := []) (ws := []) (ks := []) F hr hb tk I1 r .nil (rx.length.symm.trans ln) rfl ⟨ρ1, st1, _, S1, q1, q2, h1⟩
/-- o.m(e, ..), o an instance of the class c -/
def mMeth (c : Nat) (m : List PV → Sto → Res PV) (gP : List PV → List PV → List PV) (fo : ME) (g : MEs) : ME := fun σ st => (fo σ st).bind fun x st1 => match insOf c x st1 with
  | some _ => (g σ st1).bind fun xs st2 => m (gP (x :: xs) []) st2
  | none => .stuck
theorem me_meth {c : Nat} {mn : Str} {pl : Sem Bool} (ho : PE X o (tM X.K cl W fo)) (cC : Cls X.K (cl.ad c)) (hm : Meth X.K (cl.ad c) mn f) (nf : ∀ z ∈ cl.fld c, z ≠ mn) (F : FnOk X.prog X.w X.K X.mg X.base (L2.CX X.prog X.w) k f fd ps (spM X.K cl ps.length m)) (hr : Room k X.A)
    (hb : KBp X.K cl fd ps (n + 1) [] gP) (tk : Takes X W) (ha : PA X (e :: es) (tMA X.K cl W g)) (hl : Len g n)
    (hst : starEach (e :: es) X.env = (false, eval e X.env) :: starEach es X.env := by rfl) (hpl : (backTo pos (starEach es X.env)).any (·.1) = false := by rfl)
    (ht : eval (.Call (.Attribute o mn apos) (e :: es) [] pos) X.env = (do
      let ov ← eval o X.env
      standAt apos.atName
      let (f, first) ← holding [ov] (getMethod ov mn pl)
      callWith pos f first (backTo pos (starEach (e :: es) X.env)) (backToKw pos (keywordEach [] X.env))) := by rfl) :
    PE X (.Call (.Attribute o mn apos) (e :: es) [] pos) (tM X.K cl W (mMeth c m gP fo g)) := by
  refine ⟨fun pins s σ H Q I ⟨ρ, st, σp, S, rs, h⟩ => ?_⟩
  obtain ⟨gg, gV, hb, hG⟩ := hb.ex
  refine PySem.W.methodCall_KW (pl := pl) (thn (ho.run pins s σ H _ I (tM.beh S rs (Res.post.bind h))) fun u s1 ⟨v, H1, I1, r1, ρ1, st1, x, S1, rs1, rx, h1⟩ => ?_) ht
  dsimp only at h1
  split at h1
  · next q eq =>
    obtain ⟨q1, q2⟩ := q
    obtain ⟨b, dx, vs, rfl, rfl, hr', hq, rf, hfl, hget⟩ := insOf_at S1 rx eq
    obtain rfl : u = Value.ref b := r1
    refine getmeth_ok I1 hq cC hm (rf.miss fun p hp => nf _ (hfl p hp)) ?_
    refine PySem.W.callWith_K (first := [.ref b]) (h₀ := X.base) I.ok.mod.kin hm.kp (thn (ha.run pos pins s1 σ H1 _ I1 (tMA.beh S1 rs1 (Res.post.imp (post_len hl (Res.post.bind h1)) (fun xs st2 ρ2 H2 l2 e2 s2 h2 => (⟨rx.mono l2 e2, h2⟩ : RelP X.K ρ2 H2 (.ref q1) (.ref b) ∧ _)) fun _ _ _ z => z))) fun us s2 ⟨ws, H2, I2, r2, ρ2, st2, xs, S2, rs2, rxs, rx2, ln, h2⟩ => ⟨I2.kIn, ?_⟩) hst hpl
    obtain ⟨q3, q4⟩ := hG ρ2 H2 (.ref q1 :: xs) (.ref b :: ws) [] [] (by rw [List.length_cons, ln]) rfl (.cons rx2 rxs) .nil
    exact run_any (us := .ref b :: us) (vs := .ref b :: ws) (zs := []) (ws := []) (ks := []) F hr hb tk I2 (.cons rfl r2) .nil (by rw [List.length_cons, ← rxs.length, ln]) rfl ⟨ρ2, st2, _, S2, q3, q4, h2⟩
  · exact h1.elim
theorem me_meth0 {c : Nat} {mn : Str} {pl : Sem Bool} (ho : PE X o (tM X.K cl W fo)) (cC : Cls X.K (cl.ad c)) (hm : Meth X.K (cl.ad c) mn f) (nf : ∀ z ∈ cl.fld c, z ≠ mn) (F : FnOk X.prog X.w X.K X.mg X.base (L2.CX X.prog X.w) k f fd ps (spM X.K cl ps.length m)) (hr : Room k X.A)
    (hb : KBp X.K cl fd ps 1 [] gP) (tk : Takes X W)
    (ht : eval (.Call (.Attribute o mn apos) [] [] pos) X.env = (do
      let ov ← eval o X.env
      standAt apos.atName
      let (f, first) ← holding [ov] (getMethod ov mn pl)
      callWith pos f first (backTo pos (starEach [] X.env)) (backToKw pos (keywordEach [] X.env))) := by rfl) :
    PE X (.Call (.Attribute o mn apos) [] [] pos) (tM X.K cl W (mMeth c m gP fo mNil)) := by
  refine ⟨fun pins s σ H Q I ⟨ρ, st, σp, S, rs, h⟩ => ?_⟩
  obtain ⟨gg, gV, hb, hG⟩ := hb.ex
  refine PySem.W.methodCall_KW (pl := pl) (thn (ho.run pins s σ H _ I (tM.beh S rs (Res.post.bind h))) fun u s1 ⟨v, H1, I1, r1, ρ1, st1, x, S1, rs1, rx, h1⟩ => ?_) ht
  dsimp only at h1
  split at h1
  · next q eq =>
    obtain ⟨q1, q2⟩ := q
    obtain ⟨b, dx, vs, rfl, rfl, hr', hq, rf, hfl, hget⟩ := insOf_at S1 rx eq
    obtain rfl : u = Value.ref b := r1
    refine getmeth_ok I1 hq cC hm (rf.miss fun p hp => nf _ (hfl p hp)) ?_
    obtain ⟨q3, q4⟩ := hG ρ1 H1 [.ref q1] [.ref b] [] [] rfl rfl (.cons rx .nil) .nil
    exact PySem.W.callWith_K0 (first := [.ref b]) I1.kIn hm.kp (run_any (us := [.ref b]) (vs := [.ref b]) (zs := []) (ws := []) (ks := []) F hr hb tk I1 (.cons rfl .nil) .nil rfl rfl ⟨ρ1, st1, _, S1, q3, q4, h1⟩)
  · exact h1.elim
end
end MP
set_option Elab.async false
set_option linter.all false
set_option maxRecDepth 100000
set_option maxHeartbeats 2000000
namespace MP
open PySem PySem.Spec L2
section
variable {X : Cx} {cl : CT} {W : WX} {a b c o e : Expr} {fa fb fc fo fe : ME} {ga gb : MT} {pos pos' apos p : Pos}
def mMake (c : Nat) (m : List PV → Sto → Res PV) (gP : List PV → List PV → List PV) (g gk : MEs) : ME := fun σ st => (g σ st).bind fun xs st1 => (gk σ st1).bind fun ys st2 =>
  (m (gP (.ref st2.nx :: xs) ys) (st2.add (.ins c []))).bind fun r st3 => match r with
    | .non => .ok (.ref st2.nx) st3
    | _ => .stuck
theorem make_post {σ : L2.St} {H : Hp} {ρ : Rho} {st : Sto} {Q : VK} {c : Nat} {m : List PV → Sto → Res PV} {args : List PV} {x dx : Addr} (S : Sim X.K cl ρ st H) (hx : H x = none) (hd : H dx = none) (ne : dx ≠ x)
    (h : ((m args (st.add (.ins c []))).bind fun r st3 => match r with | .non => Res.ok (PV.ref st.nx) st3 | _ => .stuck).post X.K cl ρ H (Val X.K Q) fun C d H' => W C d σ H') :
    Sim X.K cl (ρ.put st.nx x) (st.add (.ins c [])) (upd (upd H dx (.own x)) x (.ins (cl.ad c) dx [])) ∧ Le ρ (ρ.put st.nx x) ∧ Ext X.K H (upd (upd H dx (.own x)) x (.ins (cl.ad c) dx [])) ∧
      (m args (st.add (.ins c []))).post X.K cl (ρ.put st.nx x) (upd (upd H dx (.own x)) x (.ins (cl.ad c) dx [])) (Val X.K fun v H2 => v = .non ∧ Q (.ref x) H2) (WE W σ) := by
  have hx2 : upd H dx (.own x) x = none := by rw [upd_ne (Ne.symm ne)]; exact hx
  have e1 : Ext X.K H (upd (upd H dx (.own x)) x (.ins (cl.ad c) dx [])) := (Ext.new hd).trans (Ext.new hx2)
  have S2 : Sim X.K cl (ρ.put st.nx x) (st.add (.ins c [])) (upd (upd H dx (.own x)) x (.ins (cl.ad c) dx [])) := (sim_up S hd).new hx2 ⟨dx, [], upd_same, .nil, fun p hp => absurd hp (by simp)⟩
  refine ⟨S2, S.le_put x, e1, Res.post.imp (Res.post.bind (Res.post.mono h (S.le_put x) e1)) (fun r st3 ρ3 H3 l3 e3 s3 h3 u ru => ?_) fun _ _ _ z => z⟩
  split at h3
  · cases ru
    exact ⟨rfl, Res.post.now s3 h3 _ (.ref (l3 _ _ Rho.put_same))⟩
  · exact h3.elim
def mKNil : MEs := mNil
/-- the values by name -/
theorem mk_nil : PK X [] (tMA X.K cl W mNil) := ⟨fun pos pins s σ H Q I ⟨ρ, st, σp, S, rs, h⟩ => pk_nil.run pos pins s σ H Q I (Res.post.now S h _ .nil)⟩
theorem mk_cons {kws : List Keyword} {g : MEs} {nm : Option Str} {kpos : Pos} (ha : PE X e (tM X.K cl W fe)) (hr : PK X kws (tMA X.K cl W g)) : PK X (⟨nm, e, kpos⟩ :: kws) (tMA X.K cl W (mCons fe g)) :=
  ⟨fun pos pins s σ H Q I ⟨ρ, st, σp, S, rs, h⟩ => (pk_cons ha hr).run pos pins s σ H Q I (by
    refine ⟨ρ, st, σp, S, rs, Res.post.imp (Res.post.bind h) (fun x st1 ρ1 H1 l1 e1 s1 h1 v rv => ?_) fun _ _ _ z => z⟩
    refine ⟨ρ1, st1, σp, s1, rs.mono l1 e1, Res.post.imp (Res.post.bind h1) (fun xs st2 ρ2 H2 l2 e2 s2 h2 vs rvs => ?_) fun _ _ _ z => z⟩
    exact Res.post.now s2 h2 _ (.cons (rv.mono l2 e2) rvs))⟩
variable {k n : Nat} {f : Addr} {fd : FuncData} {ps ks : List Str} {m : List PV → Sto → Res PV} {gP : List PV → List PV → List PV} {x : Str} {es : List Expr} {g gk : MEs} {kws : List Keyword}
theorem me_make {c : Nat} (M : Mk X.K (cl.ad c) f) (F : FnOk X.prog X.w X.K X.mg X.base (L2.CX X.prog X.w) k f fd ps (spM X.K cl ps.length m)) (hr : Room (k + 1) X.A) (hg : Gl X x) (hm : X.mg x = some (.ref (cl.ad c))) (hb : KBp X.K cl fd ps (n + 1) [] gP) (tk : Takes X W)
    (ha : PA X (e :: es) (tMA X.K cl W g)) (hl : Len g n) (hdb : (x == ("__debug__" : Str)) = false := by decide) (he : starEach (e :: es) X.env = (false, eval e X.env) :: starEach es X.env := by rfl) (hpl : (backTo pos (starEach es X.env)).any (·.1) = false := by rfl) :
    PE X (.Call (.Name x p) (e :: es) [] pos) (tM X.K cl W (mMake c m gP g mNil)) := by
  refine ⟨fun pins s σ H Q I ⟨ρ, st, σp, S, rs, h⟩ => ?_⟩
  obtain ⟨gg, gV, hb, hG⟩ := hb.ex
  refine wpAny_Call_Name_kw (ld_glob I hg hm ?_ hdb)
  refine PySem.W.callWith_K (h₀ := X.base) I.ok.mod.kin M.kp (thn (ha.run pos pins s σ H _ I (tMA.beh S rs (post_len hl (Res.post.bind h)))) fun us s1 ⟨vs, H1, I1, r, ρ1, st1, xs, S1, rs1, rx, ln, h1⟩ => ⟨I1.kIn, ?_⟩) he hpl
  refine run_makeS (zs := []) (ws := []) (ks := []) M F hr hb tk I1 r .nil (rx.length.symm.trans ln) rfl fun x dx hx hd ne => ?_
  obtain ⟨S2, l2, e2, h2⟩ := make_post S1 hx hd ne (show ((m (gP (.ref st1.nx :: xs) []) (st1.add (.ins c []))).bind _).post X.K cl ρ1 H1 _ _ from h1)
  obtain ⟨q1, q2⟩ := hG (ρ1.put st1.nx x) _ (.ref st1.nx :: xs) (.ref x :: vs) [] [] (by rw [List.length_cons, ln]) rfl (.cons (.ref Rho.put_same) (rx.mono l2 e2)) .nil
  exact ⟨_, _, _, S2, q1, q2, h2⟩
theorem me_make0 {c : Nat} (M : Mk X.K (cl.ad c) f) (F : FnOk X.prog X.w X.K X.mg X.base (L2.CX X.prog X.w) k f fd ps (spM X.K cl ps.length m)) (hr : Room (k + 1) X.A) (hg : Gl X x) (hm : X.mg x = some (.ref (cl.ad c))) (hb : KBp X.K cl fd ps 1 [] gP) (tk : Takes X W)
    (hdb : (x == ("__debug__" : Str)) = false := by decide) : PE X (.Call (.Name x p) [] [] pos) (tM X.K cl W (mMake c m gP mNil mNil)) := by
  refine ⟨fun pins s σ H Q I ⟨ρ, st, σp, S, rs, h⟩ => ?_⟩
  obtain ⟨gg, gV, hb, hG⟩ := hb.ex
  refine wpAny_Call_Name_kw (ld_glob I hg hm ?_ hdb)
  refine PySem.W.callWith_K0 (first := []) I.kIn M.kp ?_
  refine run_makeS (us := []) (vs := []) (zs := []) (ws := []) (ks := []) M F hr hb tk I .nil .nil rfl rfl fun x dx hx hd ne => ?_
  obtain ⟨S2, l2, e2, h2⟩ := make_post S hx hd ne (show ((m (gP (.ref st.nx :: []) []) (st.add (.ins c []))).bind _).post X.K cl ρ H _ _ from h)
  obtain ⟨q1, q2⟩ := hG (ρ.put st.nx x) _ [.ref st.nx] [.ref x] [] [] rfl rfl (.cons (.ref Rho.put_same) .nil) .nil
  exact ⟨_, _, _, S2, q1, q2, h2⟩
theorem me_makeK0 {c : Nat} (M : Mk X.K (cl.ad c) f) (F : FnOk X.prog X.w X.K X.mg X.base (L2.CX X.prog X.w) k f fd ps (spM X.K cl ps.length m)) (hr : Room (k + 1) X.A) (hg : Gl X x) (hm : X.mg x = some (.ref (cl.ad c))) (hb : KBp X.K cl fd ps 1 ks gP) (tk : Takes X W)
    (hkw : PK X kws (tMA X.K cl W gk)) (hlk : Len gk ks.length)
    (hall : (backToKw pos (keywordEach kws X.env)).all (·.1.isSome) = true := by rfl) (hks : (backToKw pos (keywordEach kws X.env)).filterMap (·.1) = ks := by rfl) (hdb : (x == ("__debug__" : Str)) = false := by decide)
    (hpl : ((backTo pos (starEach [] X.env)).any (·.1) || (backToKw pos (keywordEach kws X.env)).any (·.1.isNone)) = false := by rfl) :
    PE X (.Call (.Name x p) [] kws pos) (tM X.K cl W (mMake c m gP mNil gk)) := by
  refine ⟨fun pins s σ H Q I ⟨ρ, st, σp, S, rs, h⟩ => ?_⟩
  obtain ⟨gg, gV, hb, hG⟩ := hb.ex
  refine wpAny_Call_Name_kw (ld_glob I hg hm ?_ hdb)
  refine PySem.W.callWith_KW0 (h₀ := X.base) I.ok.mod.kin M.kp hall ?_ hpl
  refine thn (hkw.run pos pins s σ H _ I (tMA.beh S rs (post_len hlk (Res.post.bind (show ((gk σp st).bind fun ys st2 => (m (gP (.ref st2.nx :: []) ys) (st2.add (.ins c []))).bind _).post X.K cl ρ H _ _ from h))))) fun ws s2 ⟨zs, H2, I2, rz, ρ2, st2, ys, S2, rs2, ry, ln, h2⟩ => ⟨I2.kIn, ?_⟩
  rw [hks]
  refine run_makeS (us := []) (vs := []) M F hr hb tk I2 .nil rz rfl (ry.length.symm.trans ln) fun x dx hx hd ne => ?_
  obtain ⟨S3, l3, e3, h3⟩ := make_post S2 hx hd ne h2
  obtain ⟨q1, q2⟩ := hG (ρ2.put st2.nx x) _ [.ref st2.nx] [.ref x] ys zs rfl ln (.cons (.ref Rho.put_same) .nil) (ry.mono l3 e3)
  exact ⟨_, _, _, S3, q1, q2, h3⟩
theorem me_makeK {c : Nat} (M : Mk X.K (cl.ad c) f) (F : FnOk X.prog X.w X.K X.mg X.base (L2.CX X.prog X.w) k f fd ps (spM X.K cl ps.length m)) (hr : Room (k + 1) X.A) (hg : Gl X x) (hm : X.mg x = some (.ref (cl.ad c))) (hb : KBp X.K cl fd ps (n + 1) ks gP) (tk : Takes X W)
    (ha : PA X (e :: es) (tMA X.K cl W g)) (hl : Len g n) (hkw : PK X kws (tMA X.K cl W gk)) (hlk : Len gk ks.length)
    (hall : (backToKw pos (keywordEach kws X.env)).all (·.1.isSome) = true := by rfl) (hks : (backToKw pos (keywordEach kws X.env)).filterMap (·.1) = ks := by rfl) (hdb : (x == ("__debug__" : Str)) = false := by decide)
    (he : starEach (e :: es) X.env = (false, eval e X.env) :: starEach es X.env := by rfl) (hpl : ((backTo pos (starEach (e :: es) X.env)).any (·.1) || (backToKw pos (keywordEach kws X.env)).any (·.1.isNone)) = false := by rfl) :
    PE X (.Call (.Name x p) (e :: es) kws pos) (tM X.K cl W (mMake c m gP g gk)) := by
  refine ⟨fun pins s σ H Q I ⟨ρ, st, σp, S, rs, h⟩ => ?_⟩
  obtain ⟨gg, gV, hb, hG⟩ := hb.ex
  refine wpAny_Call_Name_kw (ld_glob I hg hm ?_ hdb)
  refine PySem.W.callWith_KW (h₀ := X.base) I.ok.mod.kin M.kp hall (thn (ha.run pos pins s σ H _ I (tMA.beh S rs (post_len hl (Res.post.bind h)))) fun us s1 ⟨vs, H1, I1, r, ρ1, st1, xs, S1, rs1, rx, ln, h1⟩ => ?_) hpl he
  refine thn (hkw.run pos pins s1 σ H1 _ I1 (tMA.beh S1 rs1 (Res.post.imp (post_len hlk (Res.post.bind h1)) (fun ys st2 ρ2 H2 l2 e2 s2 h2 => (⟨rx.mono l2 e2, h2⟩ : RelPs X.K ρ2 H2 xs vs ∧ _)) fun _ _ _ z => z))) fun ws s2 ⟨zs, H2, I2, rz, ρ2, st2, ys, S2, rs2, ry, rx2, lnk, h2⟩ => ⟨I2.kIn, ?_⟩
  rw [hks]
  refine run_makeS M F hr hb tk I2 r rz (rx.length.symm.trans ln) (ry.length.symm.trans lnk) fun x dx hx hd ne => ?_
  obtain ⟨S3, l3, e3, h3⟩ := make_post S2 hx hd ne h2
  obtain ⟨q1, q2⟩ := hG (ρ2.put st2.nx x) _ (.ref st2.nx :: xs) (.ref x :: vs) ys zs (by rw [List.length_cons, ln]) lnk (.cons (.ref Rho.put_same) (rx2.mono l3 e3)) (ry.mono l3 e3)
  exact ⟨_, _, _, S3, q1, q2, h3⟩
/-- f(e, .., k = v, ..) -/
def mCallK (m : List PV → Sto → Res PV) (gP : List PV → List PV → List PV) (g gk : MEs) : ME := fun σ st => (g σ st).bind fun xs st1 => (gk σ st1).bind fun ys st2 => m (gP xs ys) st2
theorem me_callK (F : FnOk X.prog X.w X.K X.mg X.base (L2.CX X.prog X.w) k f fd ps (spM X.K cl ps.length m)) (hr : Room k X.A) (hg : Gl X x) (hm : X.mg x = some (.ref f)) (hk : PySem.W.keepIn X.K (.ref f) = true) (hb : KBp X.K cl fd ps n ks gP) (tk : Takes X W)
    (ha : PA X (e :: es) (tMA X.K cl W g)) (hl : Len g n) (hkw : PK X kws (tMA X.K cl W gk)) (hlk : Len gk ks.length)
    (hall : (backToKw pos (keywordEach kws X.env)).all (·.1.isSome) = true := by rfl) (hks : (backToKw pos (keywordEach kws X.env)).filterMap (·.1) = ks := by rfl) (hdb : (x == ("__debug__" : Str)) = false := by decide)
    (he : starEach (e :: es) X.env = (false, eval e X.env) :: starEach es X.env := by rfl) (hpl : ((backTo pos (starEach (e :: es) X.env)).any (·.1) || (backToKw pos (keywordEach kws X.env)).any (·.1.isNone)) = false := by rfl) :
    PE X (.Call (.Name x p) (e :: es) kws pos) (tM X.K cl W (mCallK m gP g gk)) := by
  refine ⟨fun pins s σ H Q I ⟨ρ, st, σp, S, rs, h⟩ => ?_⟩
  obtain ⟨gg, gV, hb, hG⟩ := hb.ex
  refine wpAny_Call_Name_kw (ld_glob I hg hm ?_ hdb)
  refine PySem.W.callWith_KW (h₀ := X.base) I.ok.mod.kin hk hall (thn (ha.run pos pins s σ H _ I (tMA.beh S rs (post_len hl (Res.post.bind h)))) fun us s1 ⟨vs, H1, I1, r, ρ1, st1, xs, S1, rs1, rx, ln, h1⟩ => ?_) hpl he
  refine thn (hkw.run pos pins s1 σ H1 _ I1 (tMA.beh S1 rs1 (Res.post.imp (post_len hlk (Res.post.bind h1)) (fun ys st2 ρ2 H2 l2 e2 s2 h2 => (⟨rx.mono l2 e2, h2⟩ : RelPs X.K ρ2 H2 xs vs ∧ _)) fun _ _ _ z => z))) fun ws s2 ⟨zs, H2, I2, rz, ρ2, st2, ys, S2, rs2, ry, rx2, lnk, h2⟩ => ⟨I2.kIn, ?_⟩
  rw [hks]
  obtain ⟨q1, q2⟩ := hG ρ2 H2 xs vs ys zs ln lnk rx2 ry
  exact run_any F hr hb tk I2 r rz (rx.length.symm.trans ln) (ry.length.symm.trans lnk) ⟨ρ2, st2, _, S2, q1, q2, h2⟩
end

inductive ResS where
  | nx (σ : Sl) (s : Sto)
  | rt (v : PV) (s : Sto)
  | bk (σ : Sl) (s : Sto)
  | ct (σ : Sl) (s : Sto)
  | err (e : Exn) (σ : Sl) (s : Sto)
  | stuck
abbrev MS := Sl → Sto → ResS
def ResS.post (K : PySem.W.Frag) (cl : CT) (ρ : Rho) (H : Hp) (r : ResS) (D : Ends) (W : WX) : Prop := match r with
  | .nx σp st => ∀ ρ' H' σ', Le ρ ρ' → Ext K H H' → Sim K cl ρ' st H' → RelS K ρ' H' σp σ' → D.nx σ' H'
  | .rt v st => ∀ ρ' H' w, Le ρ ρ' → Ext K H H' → Sim K cl ρ' st H' → RelP K ρ' H' v w → D.rt w H'
  | .bk σp st => ∀ ρ' H' σ', Le ρ ρ' → Ext K H H' → Sim K cl ρ' st H' → RelS K ρ' H' σp σ' → D.bk σ' H'
  | .ct σp st => ∀ ρ' H' σ', Le ρ ρ' → Ext K H H' → Sim K cl ρ' st H' → RelS K ρ' H' σp σ' → D.ct σ' H'
  | .err e σp st => ∀ ρ' H' C d σ', Le ρ ρ' → Ext K H H' → Sim K cl ρ' st H' → RelS K ρ' H' σp σ' → ExnRel K cl ρ' H' e C d → W C d σ' H'
  | .stuck => False
def tMS (K : PySem.W.Frag) (cl : CT) (W : WX) (f : MS) : TS := fun D σ H => ∃ ρ st σp, Sim K cl ρ st H ∧ RelS K ρ H σp σ ∧ (f σp st).post K cl ρ H D W
theorem ResS.post.mono {K : PySem.W.Frag} {cl : CT} {ρ ρ' : Rho} {H H' : Hp} {r : ResS} {D : Ends} {W : WX} (h : r.post K cl ρ H D W) (l : Le ρ ρ') (e : Ext K H H') : r.post K cl ρ' H' D W := by
  cases r with
  | nx σp st => exact fun ρ2 H2 σ2 l2 e2 s2 r2 => h ρ2 H2 σ2 (l.trans l2) (e.trans e2) s2 r2
  | rt v st => exact fun ρ2 H2 σ2 l2 e2 s2 r2 => h ρ2 H2 σ2 (l.trans l2) (e.trans e2) s2 r2
  | bk σp st => exact fun ρ2 H2 σ2 l2 e2 s2 r2 => h ρ2 H2 σ2 (l.trans l2) (e.trans e2) s2 r2
  | ct σp st => exact fun ρ2 H2 σ2 l2 e2 s2 r2 => h ρ2 H2 σ2 (l.trans l2) (e.trans e2) s2 r2
  | err x σp st => exact fun ρ2 H2 C d σ2 l2 e2 s2 r2 x2 => h ρ2 H2 C d σ2 (l.trans l2) (e.trans e2) s2 r2 x2
  | stuck => exact h
/-- an expression's result on the way to a statement's -/
def Res.toS {α : Type} (r : Res α) (σ : Sl) (k : α → Sto → ResS) : ResS := match r with
  | .ok a s => k a s
  | .err e s => .err e σ s
  | .stuck => .stuck
theorem toS_post {α : Type} {K : PySem.W.Frag} {cl : CT} {ρ : Rho} {H : Hp} {r : Res α} {σp : Sl} {σ : L2.St} {k : α → Sto → ResS} {D : Ends} {W : WX} (rs : RelS K ρ H σp σ) (h : (r.toS σp k).post K cl ρ H D W) :
    r.post K cl ρ H (fun a st' ρ' H' => (k a st').post K cl ρ' H' D W) fun C d H' => W C d σ H' := by
  cases r with
  | ok a s => exact fun ρ2 H2 l2 e2 s2 => ResS.post.mono h l2 e2
  | err e s => exact fun ρ2 H2 C d l2 e2 s2 x2 => h ρ2 H2 C d σ l2 e2 s2 (rs.mono l2 e2) x2
  | stuck => exact h
def ResS.seq (r : ResS) (k : MS) : ResS := match r with
  | .nx σ s => k σ s
  | r => r
section
variable {X : Cx} {cl : CT} {W : WX} {a b c o e : Expr} {fa fb fc fo fe : ME} {ga gb : MT} {pos pos' apos p : Pos} {st0 : Stmt} {sts rest : List Stmt} {s1 s2 : MS}
theorem nx_now {K : PySem.W.Frag} {ρ : Rho} {H : Hp} {σp : Sl} {σ : L2.St} {st : Sto} {D : Ends} (S : Sim K cl ρ st H) (rs : RelS K ρ H σp σ) (h : (ResS.nx σp st).post K cl ρ H D W) : D.nx σ H := h ρ H σ (Le.refl ρ) (Ext.refl H) S rs
def sSkip : MS := fun σ st => .nx σ st
def sSeq (f g : MS) : MS := fun σ st => (f σ st).seq g
theorem ms_nil : PSs X [] (tMS X.K cl W sSkip) := pss_nil.imp fun D σ H ⟨ρ, st, σp, S, rs, h⟩ => nx_now S rs h
theorem ms_one (h : PS X st0 (tMS X.K cl W s1)) : PSs X [st0] (tMS X.K cl W s1) := pss_one h
theorem ms_cons (h1 : PS X st0 (tMS X.K cl W s1)) (h2 : PSs X rest (tMS X.K cl W s2)) : PSs X (st0 :: rest) (tMS X.K cl W (sSeq s1 s2)) := (pss_cons h1 h2).imp fun D σ H ⟨ρ, st, σp, S, rs, h⟩ => by
  refine ⟨ρ, st, σp, S, rs, ?_⟩
  unfold sSeq at h
  cases q : s1 σp st with
  | nx σ1 t1 =>
    rw [q] at h
    exact fun ρ2 H2 σ2 l2 e2 S2 rs2 => ⟨ρ2, t1, σ1, S2, rs2, ResS.post.mono h l2 e2⟩
  | rt v t1 => rw [q] at h; exact h
  | bk σ1 t1 => rw [q] at h; exact h
  | ct σ1 t1 => rw [q] at h; exact h
  | err x σ1 t1 => rw [q] at h; exact h
  | stuck => rw [q] at h; exact h
def sPass : MS := sSkip
theorem ms_pass : PS X (.Pass pos) (tMS X.K cl W sSkip) := ps_pass.imp fun D σ H ⟨ρ, st, σp, S, rs, h⟩ => nx_now S rs h
def sBreak : MS := fun σ st => .bk σ st
theorem ms_break : PS X (.Break pos) (tMS X.K cl W sBreak) := ps_break.imp fun D σ H ⟨ρ, st, σp, S, rs, h⟩ => h ρ H σ (Le.refl ρ) (Ext.refl H) S rs
def sCont : MS := fun σ st => .ct σ st
theorem ms_cont : PS X (.Continue pos) (tMS X.K cl W sCont) := ps_continue.imp fun D σ H ⟨ρ, st, σp, S, rs, h⟩ => h ρ H σ (Le.refl ρ) (Ext.refl H) S rs
def sExpr (f : ME) : MS := fun σ st => (f σ st).toS σ fun _ st1 => .nx σ st1
theorem ms_expr (he : PE X e (tM X.K cl W fe)) (hs : swapsWith e none pos.line X.env = pure false := by rfl) : PS X (.Expr e pos) (tMS X.K cl W (sExpr fe)) := (ps_expr he hs).imp fun D σ H ⟨ρ, st, σp, S, rs, h⟩ =>
  ⟨ρ, st, σp, S, rs, Res.post.imp (toS_post rs h) (fun x st1 ρ1 H1 l1 e1 s1 h1 v rv => nx_now s1 (rs.mono l1 e1) h1) fun _ _ _ z => z⟩
def sRet (f : ME) : MS := fun σ st => (f σ st).toS σ fun v st1 => .rt v st1
theorem ms_ret (he : PE X e (tM X.K cl W fe)) : PS X (.Return (some e) pos) (tMS X.K cl W (sRet fe)) := (ps_ret he).imp fun D σ H ⟨ρ, st, σp, S, rs, h⟩ =>
  ⟨ρ, st, σp, S, rs, Res.post.imp (toS_post rs h) (fun x st1 ρ1 H1 l1 e1 s1 h1 v rv => h1 ρ1 H1 v (Le.refl _) (Ext.refl _) s1 rv) fun _ _ _ z => z⟩
def sRetN : MS := fun _ st => .rt .non st
theorem ms_retN : PS X (.Return none pos) (tMS X.K cl W sRetN) := ps_retN.imp fun D σ H ⟨ρ, st, σp, S, rs, h⟩ => h ρ H _ (Le.refl ρ) (Ext.refl H) S .non
def sIf (g : MT) (f1 f2 : MS) : MS := fun σ st => (g σ st).toS σ fun c st1 => if c = true then f1 σ st1 else f2 σ st1
theorem ms_if {sa sb : List Stmt} (hc : PT X c (tMT X.K cl W ga)) (ha : PSs X sa (tMS X.K cl W s1)) (hb : PSs X sb (tMS X.K cl W s2)) : PS X (.If c sa sb pos) (tMS X.K cl W (sIf ga s1 s2)) := (ps_if hc ha hb).imp fun D σ H ⟨ρ, st, σp, S, rs, h⟩ => by
  refine ⟨ρ, st, σp, S, rs, Res.post.imp (toS_post rs h) (fun c st1 ρ1 H1 l1 e1 S1 h1 => ?_) fun _ _ _ z => z⟩
  cases c with
  | true => exact iteT ⟨ρ1, st1, σp, S1, rs.mono l1 e1, h1⟩
  | false => exact iteF ⟨ρ1, st1, σp, S1, rs.mono l1 e1, h1⟩
/-- x = e -/
def sSet (i : Nat) (f : ME) : MS := fun σ st => (f σ st).toS σ fun v st1 => .nx (σ.set i (some v)) st1
theorem ms_set {i : Nat} {x : Str} (hN : X.N.Nodup) (hi : X.N[i]? = some x) (hx : Loc X.env.scope x) (he : PE X e (tM X.K cl W fe)) (hs : swapsWith e (some (.Name x pos')) pos.line X.env = pure false := by rfl) (hf : X.fn x = true ∨ X.env.scope.names.lookup x = some .local := by first | exact .inl rfl | exact .inr rfl | assumption) :
    PS X (.Assign [.Name x pos'] e pos) (tMS X.K cl W (sSet i fe)) := (ps_set hN hi hx he hs hf).imp fun D σ H ⟨ρ, st, σp, S, rs, h⟩ =>
  ⟨ρ, st, σp, S, rs, Res.post.imp (toS_post rs h) (fun x st1 ρ1 H1 l1 e1 S1 h1 v rv => nx_now S1 ((rs.mono l1 e1).set i rv) h1) fun _ _ _ z => z⟩
/-- o.f = e -/
def sFldM (c : Nat) (f : Str) (fo fe : ME) : MS := fun σ st => (fe σ st).toS σ fun y st1 => (fo σ st1).toS σ fun x st2 => match insOf c x st2 with
  | some (n, fs) => if fs.length < 900 then .nx σ (st2.set n (.ins c (putP f y fs))) else .stuck
  | none => .stuck
theorem ms_fld {c : Nat} {f : Str} (cC : Cls X.K (cl.ad c)) (na : NoAttr X.K (cl.ad c) f) (hf : f ∈ cl.fld c) (ho : PE X o (tM X.K cl W fo)) (he : PE X e (tM X.K cl W fe)) (hs : swapsWith e (some (.Attribute o f pos')) pos.line X.env = pure false := by rfl) :
    PS X (.Assign [.Attribute o f pos'] e pos) (tMS X.K cl W (sFldM c f fo fe)) := (ps_fld ho he hs).imp fun D σ H ⟨ρ, st, σp, S, rs, h⟩ => by
  refine ⟨ρ, st, σp, S, rs, Res.post.imp (toS_post rs h) (fun y st1 ρ1 H1 l1 e1 S1 h1 v rv => ?_) fun _ _ _ z => z⟩
  refine ⟨ρ1, st1, σp, S1, rs.mono l1 e1, Res.post.imp (toS_post (rs.mono l1 e1) h1) (fun x st2 ρ2 H2 l2 e2 S2 h2 w rw' => ?_) fun _ _ _ z => z⟩
  split at h2
  · next n fs eq =>
    split at h2
    · next hlen =>
      obtain ⟨b, dx, vs, rfl, rfl, hr, hq, rf, hfl, hget⟩ := insOf_at S2 rw' eq
      refine ⟨b, _, dx, vs, rfl, hq, cC, na, by rw [← rf.length]; omega, ?_⟩
      have ex : Ext X.K H2 (upd H2 b (.ins (cl.ad c) dx (putF f v vs))) := Ext.write hq trivial
      have S3 : Sim X.K cl ρ2 (st2.set n (.ins c (putP f y fs))) (upd H2 b (.ins (cl.ad c) dx (putF f v vs))) := S2.write hr hq trivial ⟨dx, _, upd_same, (rf.put f (rv.mono l2 e2)).mono (Le.refl _) ex, putP_fld hf hfl⟩
      exact h2 ρ2 _ σ (Le.refl _) ex S3 (((rs.mono l1 e1).mono l2 e2).mono (Le.refl _) ex)
    · exact h2.elim
  · exact h2.elim
/-- o.f += e -/
def sFldAdd (c : Nat) (f : Str) (fo fe : ME) : MS := fun σ st => (fo σ st).toS σ fun x st1 => match insOf c x st1 with
  | some (_, fs) => match fs.lookup f with
    | some (.int i) => (fe σ st1).toS σ fun y st2 => match y, insOf c x st2 with
      | .int j, some (n, fs2) => if fs2.length < 900 then .nx σ (st2.set n (.ins c (putP f (.int (i + j)) fs2))) else .stuck
      | _, _ => .stuck
    | _ => .stuck
  | none => .stuck
theorem ms_fldadd {c : Nat} {f : Str} (cC : Cls X.K (cl.ad c)) (na : NoAttr X.K (cl.ad c) f) (hf : f ∈ cl.fld c) (ho : PE X o (tM X.K cl W fo)) (he : PE X e (tM X.K cl W fe)) : PS X (.AugAssign (.Attribute o f pos') .Add e pos) (tMS X.K cl W (sFldAdd c f fo fe)) :=
  (ps_fldaug ho he in_add).imp fun D σ H ⟨ρ, st, σp, S, rs, h⟩ => by
    refine ⟨ρ, st, σp, S, rs, Res.post.imp (toS_post rs h) (fun x st1 ρ1 H1 l1 e1 S1 h1 v rv => ?_) fun _ _ _ z => z⟩
    split at h1
    · next n fs eq =>
      split at h1
      · next i ei =>
        obtain ⟨b, dx, vs, rfl, rfl, hr, hq, rf, hfl, hget⟩ := insOf_at S1 rv eq
        obtain ⟨u, hu, ru⟩ := rf.look ei
        cases ru
        refine ⟨b, _, dx, vs, _, rfl, hq, cC, na, hu, ρ1, st1, σp, S1, rs.mono l1 e1, Res.post.imp (toS_post (rs.mono l1 e1) h1) (fun y st2 ρ2 H2 l2 e2 S2 h2 w rw' => ?_) fun _ _ _ z => z⟩
        split at h2
        · next j n2 fs2 eq2 =>
          split at h2
          · next hlen =>
            cases rw'
            obtain ⟨b2, dx2, vs2, e9, _, hr2, hq2, rf2, hfl2, _⟩ := insOf_at S2 (.ref (l2 _ _ hr)) eq2
            cases e9
            refine ⟨_, _, rfl, rfl, dx2, vs2, hq2, by rw [← rf2.length]; omega, ?_⟩
            have ex : Ext X.K H2 (upd H2 b (.ins (cl.ad c) dx2 (putF f (.int (i + j)) vs2))) := Ext.write hq2 trivial
            have S3 : Sim X.K cl ρ2 (st2.set n2 (.ins c (putP f (.int (i + j)) fs2))) (upd H2 b (.ins (cl.ad c) dx2 (putF f (.int (i + j)) vs2))) := S2.write hr2 hq2 trivial ⟨dx2, _, upd_same, (rf2.put f (.int _)).mono (Le.refl _) ex, putP_fld hf hfl2⟩
            exact h2 ρ2 _ σ (Le.refl _) ex S3 (((rs.mono l1 e1).mono l2 e2).mono (Le.refl _) ex)
          · exact h2.elim
        · exact h2.elim
      · exact h1.elim
    · exact h1.elim
end
end MP
set_option Elab.async false
set_option linter.all false
set_option maxRecDepth 100000
set_option maxHeartbeats 2000000
namespace MP
open PySem PySem.Spec L2
instance : DecidableEq PO := fun a b => match a, b with
  | .lst xs, .lst ys => if h : xs = ys then isTrue (by rw [h]) else isFalse fun e => h (by cases e; rfl)
  | .dct a1 c1, .dct a2 c2 => if h : a1 = a2 ∧ c1 = c2 then isTrue (by rw [h.1, h.2]) else isFalse fun e => h (by cases e; exact ⟨rfl, rfl⟩)
  | .ins c1 f1, .ins c2 f2 => if h : c1 = c2 ∧ f1 = f2 then isTrue (by rw [h.1, h.2]) else isFalse fun e => h (by cases e; exact ⟨rfl, rfl⟩)
  | .lst _, .dct _ _ => isFalse fun e => nomatch e
  | .lst _, .ins _ _ => isFalse fun e => nomatch e
  | .dct _ _, .lst _ => isFalse fun e => nomatch e
  | .dct _ _, .ins _ _ => isFalse fun e => nomatch e
  | .ins _ _, .lst _ => isFalse fun e => nomatch e
  | .ins _ _, .dct _ _ => isFalse fun e => nomatch e
abbrev MG := PV → Sl → Option Sl
/-- a target that sets slots out of vs alone -/
def tMG (K : PySem.W.Frag) (vs : List Nat) (g : MG) : TG := fun v σ H N => ∃ ρ σp x, RelS K ρ H σp σ ∧ RelP K ρ H x v ∧ ∃ σp', g x σp = some σp' ∧ ∀ σ', RelS K ρ H σp' σ' → wipe σ' vs = wipe σ vs → N σ' H
def tMGs (K : PySem.W.Frag) (vs : List Nat) (g : List PV → Sl → Option Sl) : TGs := fun ws σ H N => ∃ ρ σp xs, RelS K ρ H σp σ ∧ RelPs K ρ H xs ws ∧ ∃ σp', g xs σp = some σp' ∧ ∀ σ', RelS K ρ H σp' σ' → wipe σ' vs = wipe σ vs → N σ' H
theorem wipe_get {σ : L2.St} {i : Nat} : ∀ {vs : List Nat}, i ∈ vs → i < σ.length → (wipe σ vs)[i]? = some none
  | [], h, _ => by cases h
  | v :: vs, h, hl => by
    unfold wipe
    by_cases e : v = i
    · subst e
      rw [List.getElem?_set_self (by rw [wipe_length]; exact hl)]
    · rw [List.getElem?_set_ne e]
      exact wipe_get ((List.mem_cons.mp h).resolve_left fun z => e z.symm) hl
theorem wipe_set {σ : L2.St} {i : Nat} {x : Option V} {vs : List Nat} (h : i ∈ vs) : wipe (σ.set i x) vs = wipe σ vs := by
  apply List.ext_getElem?
  intro j
  by_cases hj : j ∈ vs
  · by_cases hl : j < σ.length
    · rw [wipe_get hj (by rw [List.length_set]; exact hl), wipe_get hj hl]
    · rw [List.getElem?_eq_none (by rw [wipe_length, List.length_set]; omega), List.getElem?_eq_none (by rw [wipe_length]; omega)]
  · rw [wipe_out hj, wipe_out hj, List.getElem?_set_ne]
    exact fun e => hj (e ▸ h)
def wipeP (σ : Sl) : List Nat → Sl
  | [] => σ
  | v :: vs => (wipeP σ vs).set v none
theorem RelS.drop {K : PySem.W.Frag} {ρ : Rho} {H : Hp} {σp : Sl} {σ : L2.St} (h : RelS K ρ H σp σ) (i : Nat) (y : Option V) : RelS K ρ H (σp.set i none) (σ.set i y) := by
  refine ⟨by simp [h.1], fun j x q => ?_⟩
  by_cases hj : i = j
  · subst hj
    by_cases hl : i < σp.length
    · rw [List.getElem?_set_self hl] at q; cases q
    · rw [List.getElem?_eq_none (by simp; omega)] at q; cases q
  · rw [List.getElem?_set_ne hj] at q
    obtain ⟨w, a, b⟩ := h.2 j x q
    exact ⟨w, by rw [List.getElem?_set_ne hj]; exact a, b⟩
theorem RelS.wipe {K : PySem.W.Frag} {ρ : Rho} {H : Hp} {σp : Sl} {σ : L2.St} (h : RelS K ρ H σp σ) : ∀ vs, RelS K ρ H (wipeP σp vs) (L2.wipe σ vs)
  | [] => h
  | v :: vs => (RelS.wipe h vs).drop v none
section
variable {X : Cx} {vs : List Nat} {pos : Pos}
def gN (i : Nat) : MG := fun x σ => some (σ.set i (some x))
theorem mg_name {i : Nat} {x : Str} (hN : X.N.Nodup) (hi : X.N[i]? = some x) (hx : Loc X.env.scope x) (hv : i ∈ vs) (hf : X.fn x = true ∨ X.env.scope.names.lookup x = some .local := by first | exact .inl rfl | exact .inr rfl | assumption) : PG X (.Name x pos) (tMG X.K vs (gN i)) :=
  ⟨fun pins s σ H v u Q I r ⟨ρ, σp, x, rs, rx, σp', e, k⟩ => (pg_name hN hi hx hf).run pins s σ H v u Q I r (by
    cases e
    exact k _ (rs.set i rx) (wipe_set hv))⟩
def gsNil : List PV → Sl → Option Sl := fun xs σ => match xs with
  | [] => some σ
  | _ => none
def gsCons (g : MG) (gs : List PV → Sl → Option Sl) : List PV → Sl → Option Sl := fun xs σ => match xs with
  | x :: r => (g x σ).bind (gs r)
  | [] => none
theorem mgs_nil : PGs X [] (tMGs X.K vs gsNil) := ⟨fun pins s σ H v u Q I r ⟨ρ, σp, xs, rs, rx, σp', e, k⟩ => pgs_nil.run pins s σ H v u Q I r (by
  cases rx with
  | nil => cases e; exact ⟨rfl, k _ rs rfl⟩
  | cons _ _ => cases e)⟩
theorem mgs_cons {e : Expr} {es : List Expr} {g : MG} {gs : List PV → Sl → Option Sl} (h1 : PG X e (tMG X.K vs g)) (h2 : PGs X es (tMGs X.K vs gs))
    (hs : (assignEach (e :: es) X.env).map (·.2) = assign e X.env :: (assignEach es X.env).map (·.2) := by rfl) : PGs X (e :: es) (tMGs X.K vs (gsCons g gs)) :=
  ⟨fun pins s σ H v u Q I r ⟨ρ, σp, xs, rs, rx, σp', e, k⟩ => (pgs_cons h1 h2 hs).run pins s σ H v u Q I r (by
    cases rx with
    | nil => cases e
    | @cons x w xs ws h t =>
      have e : (g x σp).bind (gs xs) = some σp' := e
      obtain ⟨σ1, e1, e2⟩ := Option.bind_eq_some_iff.mp e
      exact ⟨_, _, rfl, ρ, σp, x, rs, h, σ1, e1, fun σ' r' w' => ⟨ρ, σ1, xs, r', t, σp', e2, fun σ'' r'' w'' => k σ'' r'' (w''.trans w')⟩⟩)⟩
def gT (n : Nat) (gs : List PV → Sl → Option Sl) : MG := fun x σ => match x with
  | .tup xs => if xs.length = n then gs xs σ else none
  | .ktp xs => if xs.length = n then gs xs σ else none
  | _ => none
theorem mg_tup {es : List Expr} {k : Nat} {n : Nat} {gs : List PV → Sl → Option Sl} (hc : X.calm = true) (h : PGs X es (tMGs X.K vs gs))
    (hn : (assignEach es X.env).length = n := by rfl) (hst : (assignEach es X.env).findIdx? (·.1) = none := by rfl) : PG X (.Tuple es k pos) (tMG X.K vs (gT n gs)) :=
  ⟨fun pins s σ H v u Q I r ⟨ρ, σp, x, rs, rx, σp', e, kk⟩ => (pg_tup hc h hn hst).run pins s σ H v u Q I r (by
    unfold gT at e
    split at e
    · split at e
      · next hl =>
        cases rx with
        | tup q rr => exact ⟨_, _, rfl, SqT.of q, by rw [← rr.length]; exact hl, ρ, σp, _, rs, rr, σp', e, kk⟩
      · cases e
    · split at e
      · next hl =>
        cases rx with
        | ktp q rr => exact ⟨_, _, rfl, q.sq, by rw [← rr.length]; exact hl, ρ, σp, _, rs, rr, σp', e, kk⟩
      · cases e
    · cases e)⟩
end

abbrev Gd := List (Nat × PO)
def chk (gd : Gd) (st : Sto) : Bool := gd.all fun p => decide (st.get p.1 = some p.2)
abbrev MW := Sl → Sto → Res (List PV × Gd)
/-- the iterator J yields xs as long as what gd says stands -/
def ItOk (K : PySem.W.Frag) (cl : CT) (J : It) (xs : List PV) (gd : Gd) (ρ1 : Rho) (H1 : Hp) : Prop :=
  ∀ ρ st H, Le ρ1 ρ → Ext K H1 H → Sim K cl ρ st H → chk gd st = true →
    (∀ i, xs.length ≤ i → J.stop i H) ∧ ∀ i x, xs[i]? = some x → J.go i H ∧ ∀ v H', J.yld i H v H' → Ext K H H' ∧ Sim K cl ρ st H' ∧ RelP K ρ H' x v
def tW (K : PySem.W.Frag) (cl : CT) (W : WX) (f : MW) : TI := fun σ H R => ∃ ρ st σp, Sim K cl ρ st H ∧ RelS K ρ H σp σ ∧
  (f σp st).post K cl ρ H (fun p _ ρ1 H1 => ∀ J, ItOk K cl J p.1 p.2 ρ1 H1 → R J H1) fun C d H' => W C d σ H'
theorem _root_.L2.PI.imp {X : Cx} {tg e : Expr} {t t' : TI} (h : PI X tg e t) (i : ∀ σ H R, t' σ H R → t σ H R) : PI X tg e t' := ⟨fun pins s σ H R I q => h.run pins s σ H R I (i σ H R q)⟩
theorem pi_or {X : Cx} {tg e : Expr} {t t' : TI} (h : PI X tg e t) (h' : PI X tg e t') : PI X tg e (fun σ H R => t σ H R ∨ t' σ H R) := ⟨fun pins s σ H R I q => q.elim (h.run pins s σ H R I) (h'.run pins s σ H R I)⟩
theorem pe_or {X : Cx} {e : Expr} {t t' : TE} (h : PE X e t) (h' : PE X e t') : PE X e (fun σ H R => t σ H R ∨ t' σ H R) := ⟨fun pins s σ H R I q => q.elim (h.run pins s σ H R I) (h'.run pins s σ H R I)⟩
section
variable {K : PySem.W.Frag} {cl : CT} {ρ : Rho} {st : Sto} {H : Hp}
theorem RelPs.getR {xs : List PV} {vs : List V} {i : Nat} {x : PV} {v : V} (h : RelPs K ρ H xs vs) (e : xs[i]? = some x) (e2 : vs[i]? = some v) : RelP K ρ H x v := by
  obtain ⟨w, q, r⟩ := h.get e
  rw [e2] at q
  cases q
  exact r
theorem RelPs.some {xs : List PV} {vs : List V} {i : Nat} {x : PV} (h : RelPs K ρ H xs vs) (e : xs[i]? = some x) : ∃ v, vs[i]? = some v := by
  obtain ⟨w, q, r⟩ := h.get e
  exact ⟨w, q⟩
theorem it_lst {n : Nat} {a : Addr} {xs : List PV} (hr : ρ n = some a) (S : Sim K cl ρ st H) : ItOk K cl (Itl K a) xs [(n, .lst xs)] ρ H := by
  intro ρ' st' H' l e S' hc
  have hg : st'.get n = .some (.lst xs) := by simpa [chk] using hc
  obtain ⟨vs, q, r⟩ := S'.at_ (l _ _ hr) hg
  have hl := r.length
  refine ⟨fun i hi => ⟨vs, .inl (.inl q), by omega⟩, fun i x hx => ?_⟩
  obtain ⟨v, hv, rv⟩ := r.get hx
  exact ⟨⟨vs, v, .inl (.inl q), hv⟩, fun w H2 ⟨e2, k⟩ => by
    subst e2
    exact ⟨Ext.refl _, S', r.getR hx (k vs (.inl (.inl q)))⟩⟩
theorem it_rol {a : Addr} {xs : List PV} {vs : List V} (h : RoL K H a vs) (r : RelPs K ρ H xs vs) : ItOk K cl (Itl K a) xs [] ρ H := by
  intro ρ' st' H' l e S' hc
  have r' := r.mono l e
  have q := (e.w.rol _ _ h).sql
  have hl := r'.length
  refine ⟨fun i hi => ⟨vs, q, by omega⟩, fun i x hx => ?_⟩
  obtain ⟨v, hv, rv⟩ := r'.get hx
  exact ⟨⟨vs, v, q, hv⟩, fun w H2 ⟨e2, k⟩ => by
    subst e2
    exact ⟨Ext.refl _, S', r'.getR hx (k vs q)⟩⟩
theorem it_tup {a : Addr} {xs : List PV} {vs : List V} (h : ∀ H', Ext K H H' → SqT K H' a vs) (r : RelPs K ρ H xs vs) : ItOk K cl (Itt K a) xs [] ρ H := by
  intro ρ' st' H' l e S' hc
  have r' := r.mono l e
  have q := h _ e
  have hl := r'.length
  refine ⟨fun i hi => ⟨vs, q, by omega⟩, fun i x hx => ?_⟩
  obtain ⟨v, hv, rv⟩ := r'.get hx
  exact ⟨⟨vs, v, q, hv⟩, fun w H2 ⟨e2, k⟩ => by
    subst e2
    exact ⟨Ext.refl _, S', r'.getR hx (k vs q)⟩⟩
theorem relDk_get {kvs : List (PV × PV)} {ws : List (Key × V)} (h : RelDk K ρ H kvs ws) : ∀ {i : Nat} {k : Key} {v : V}, ws[i]? = .some (k, v) → ∃ x y, kvs[i]? = .some (x, y) ∧ RelP K ρ H x (kV k) ∧ RelP K ρ H y v := by
  induction h with
  | nil => intro i k v e; simp at e
  | @cons x y k v xs vs hk h t ih =>
    intro i k' v' e
    cases i with
    | zero =>
      simp at e
      obtain ⟨rfl, rfl⟩ := e
      refine ⟨x, y, rfl, ?_, h⟩
      cases x <;> simp [keyK] at hk <;> subst hk
      · exact .int _
      · exact .str _
    | succ i =>
      obtain ⟨x', y', q, r⟩ := ih (i := i) (by simpa using e)
      exact ⟨x', y', by simpa using q, r⟩
theorem RelDk.length {kvs : List (PV × PV)} {ws : List (Key × V)} (h : RelDk K ρ H kvs ws) : kvs.length = ws.length := by
  induction h with
  | nil => rfl
  | cons _ _ _ ih => rw [List.length_cons, List.length_cons, ih]
theorem RelDt.length {kvs : List (PV × PV)} {ws : List (List Key × V)} (h : RelDt K ρ H kvs ws) : kvs.length = ws.length := by
  induction h with
  | nil => rfl
  | cons _ _ _ ih => rw [List.length_cons, List.length_cons, ih]
theorem keysK_rel : ∀ {xs : List PV} {ks : List Key}, keysK xs = .some ks → RelPs K ρ H xs (ks.map kV)
  | [], ks, h => by rw [keysK] at h; cases h; exact .nil
  | x :: xs, ks, h => by
    rw [keysK] at h
    split at h
    · next k r e1 e2 =>
      cases h
      refine .cons ?_ (keysK_rel e2)
      cases x <;> simp [keyK] at e1 <;> subst e1
      · exact .int _
      · exact .str _
    · cases h
theorem relDt_get {kvs : List (PV × PV)} {ws : List (List Key × V)} (h : RelDt K ρ H kvs ws) : ∀ {i : Nat} {k : List Key} {v : V}, ws[i]? = .some (k, v) → ∃ x y, kvs[i]? = .some (.tup x, y) ∧ RelPs K ρ H x (k.map kV) ∧ RelP K ρ H y v := by
  induction h with
  | nil => intro i k v e; simp at e
  | @cons x y k v xs vs hk h t ih =>
    intro i k' v' e
    cases i with
    | zero =>
      simp at e
      obtain ⟨rfl, rfl⟩ := e
      cases x with
      | tup zs => exact ⟨zs, y, rfl, keysK_rel hk, h⟩
      | _ => cases hk
    | succ i =>
      obtain ⟨x', y', q, r⟩ := ih (i := i) (by simpa using e)
      exact ⟨x', y', by simpa using q, r⟩
/-- a locked dict of the store -/
theorem dct_at {n : Nat} {a : Addr} {kvs : List (PV × PV)} (S : Sim K cl ρ st H) (hr : ρ n = .some a) (e : st.get n = .some (.dct kvs true)) :
    (∃ o ws, H a = .some (.frz o (.dK ws)) ∧ RelDk K ρ H kvs ws) ∨ ∃ o ws, H a = .some (.frz o (.dT ws)) ∧ RelDt K ρ H kvs ws ∧ kvs ≠ [] := by
  obtain ⟨u, r, o, q⟩ := S.at_ hr e
  rcases r with ⟨ws, rfl, r⟩ | ⟨ne, ws, rfl, r⟩
  · exact .inl ⟨o, ws, q, r⟩
  · exact .inr ⟨o, ws, q, r, ne⟩
theorem map_get {α β : Type} {f : α → β} {xs : List α} {i : Nat} {y : β} (h : (xs.map f)[i]? = .some y) : ∃ x, xs[i]? = .some x ∧ y = f x := by
  rw [List.getElem?_map] at h
  obtain ⟨x, h1, h2⟩ := Option.map_eq_some_iff.mp h
  exact ⟨x, h1, h2.symm⟩
/-- where a locked dict stands in H1, with its pairs, at a later moment -/
theorem dk_later {n : Nat} {a : Addr} {o : Obj} {ws : List (Key × V)} {kvs : List (PV × PV)} (q : H a = .some (.frz o (.dK ws))) (r : RelDk K ρ H kvs ws) {ρ' : Rho} {H' : Hp} (l : Le ρ ρ') (e : Ext K H H') : H' a = .some (.frz o (.dK ws)) ∧ RelDk K ρ' H' kvs ws := ⟨e.frz _ _ _ q, r.monoW l e.w⟩
theorem it_keys {a : Addr} {o : Obj} {ws : List (Key × V)} {kvs : List (PV × PV)} (q : H a = .some (.frz o (.dK ws))) (r : RelDk K ρ H kvs ws) : ItOk K cl (Itk a o ws) (kvs.map (·.1)) [] ρ H := by
  intro ρ' st' H' l e S' hc
  have q' := e.frz _ _ _ q
  have r' := r.monoW l e.w
  have hl := r'.length
  refine ⟨fun i hi => ⟨q', by rw [List.length_map] at hi; omega⟩, fun i x hx => ?_⟩
  obtain ⟨⟨k, y⟩, h1, rfl⟩ := map_get hx
  have hlt : i < ws.length := by
    have := (List.getElem?_eq_some_iff.mp h1).1
    omega
  refine ⟨⟨q', hlt⟩, fun w H2 ⟨e2, k2, v2, hk, ew⟩ => ?_⟩
  subst e2
  obtain ⟨x', y', h2, h3, _⟩ := relDk_get r' hk
  rw [h1] at h2
  cases h2
  rw [ew]
  exact ⟨Ext.refl _, S', h3⟩
theorem it_keysT {a : Addr} {o : Obj} {ws : List (List Key × V)} {kvs : List (PV × PV)} (q : H a = .some (.frz o (.dT ws))) (r : RelDt K ρ H kvs ws) : ItOk K cl (Itkt a o ws) (kvs.map (·.1)) [] ρ H := by
  intro ρ' st' H' l e S' hc
  have q' := e.frz _ _ _ q
  have r' := r.monoW l e.w
  have hl := r'.length
  refine ⟨fun i hi => ⟨q', by rw [List.length_map] at hi; omega⟩, fun i x hx => ?_⟩
  obtain ⟨⟨k, y⟩, h1, rfl⟩ := map_get hx
  have hlt : i < ws.length := by
    have := (List.getElem?_eq_some_iff.mp h1).1
    omega
  refine ⟨⟨q', hlt⟩, fun w H2 ⟨e2, k2, v2, p2, hk, ew, ep⟩ => ?_⟩
  subst e2
  obtain ⟨x', y', h2, h3, _⟩ := relDt_get r' hk
  rw [h1] at h2
  cases h2
  rw [ew]
  exact ⟨Ext.refl _, S', .tup ep h3⟩
theorem it_vals {a : Addr} {o : Obj} {ws : List (Key × V)} {kvs : List (PV × PV)} (q : H a = .some (.frz o (.dK ws))) (r : RelDk K ρ H kvs ws) : ItOk K cl (Itd a o ws) (kvs.map (·.2)) [] ρ H := by
  intro ρ' st' H' l e S' hc
  have q' := e.frz _ _ _ q
  have r' := r.monoW l e.w
  have hl := r'.length
  refine ⟨fun i hi => ⟨q', by rw [List.length_map] at hi; omega⟩, fun i x hx => ?_⟩
  obtain ⟨⟨k, y⟩, h1, rfl⟩ := map_get hx
  have hlt : i < ws.length := by
    have := (List.getElem?_eq_some_iff.mp h1).1
    omega
  refine ⟨⟨q', hlt⟩, fun w H2 ⟨e2, k2, hk⟩ => ?_⟩
  subst e2
  obtain ⟨x', y', h2, _, h3⟩ := relDk_get r' hk
  rw [h1] at h2
  cases h2
  exact ⟨Ext.refl _, S', h3⟩
/-- a heap with a new object that the store does not track -/
theorem Sim.plus (S : Sim K cl ρ st H) {p : Addr} {o : HO} (h : H p = none) : Sim K cl ρ st (upd H p o) :=
  S.keep (ExtW.new h) (fun n a hr => by
    obtain ⟨u, q⟩ := S.there hr
    exact upd_ne (ne_of_none q h)) (tabs_new S.tab h)
theorem it_items {a : Addr} {o : Obj} {ws : List (Key × V)} {kvs : List (PV × PV)} (q : H a = .some (.frz o (.dK ws))) (r : RelDk K ρ H kvs ws) : ItOk K cl (Iti a o ws) (kvs.map fun p => .tup [p.1, p.2]) [] ρ H := by
  intro ρ' st' H' l e S' hc
  have q' := e.frz _ _ _ q
  have r' := r.monoW l e.w
  have hl := r'.length
  refine ⟨fun i hi => ⟨q', by rw [List.length_map] at hi; omega⟩, fun i x hx => ?_⟩
  obtain ⟨⟨k, y⟩, h1, rfl⟩ := map_get hx
  have hlt : i < ws.length := by
    have := (List.getElem?_eq_some_iff.mp h1).1
    omega
  refine ⟨⟨q', hlt⟩, fun w H2 ⟨T, k2, v2, hk, ew, hT, e2⟩ => ?_⟩
  obtain ⟨x', y', h2, h3, h4⟩ := relDk_get r' hk
  rw [h1] at h2
  cases h2
  subst e2
  rw [ew]
  have ex : Ext K H' (upd H' T (.tup [kV k2, v2])) := Ext.new hT
  exact ⟨ex, S'.plus hT, .tup upd_same (.cons (h3.mono (Le.refl _) ex) (.cons (h4.mono (Le.refl _) ex) .nil))⟩
def rngP (lo : Int) (n : Nat) : List PV := (List.range n).map fun (i : Nat) => PV.int (lo + i)
theorem it_rng {lo : Int} {n : Nat} : ItOk K cl (Itr lo n) (rngP lo n) [] ρ H := by
  intro ρ' st' H' l e S' hc
  refine ⟨fun i hi => (by simpa [rngP] using hi : n ≤ i), fun i x hx => ?_⟩
  obtain ⟨j, h1, rfl⟩ := map_get hx
  have hlt : i < n := by
    have := (List.getElem?_eq_some_iff.mp h1).1
    simpa using this
  have hj : j = i := by
    rw [List.getElem?_range hlt] at h1
    cases h1; rfl
  subst hj
  refine ⟨hlt, fun w H2 ⟨e2, ew⟩ => ?_⟩
  subst e2
  rw [ew]
  exact ⟨Ext.refl _, S', .int _⟩
def rngC (lo c : Int) (n : Nat) : List PV := (List.range n).map fun (i : Nat) => PV.int (lo + i * c)
theorem it_rngC {lo c : Int} {n : Nat} : ItOk K cl (Itc lo c n) (rngC lo c n) [] ρ H := by
  intro ρ' st' H' l e S' hc
  refine ⟨fun i hi => (by simpa [rngC] using hi : n ≤ i), fun i x hx => ?_⟩
  obtain ⟨j, h1, rfl⟩ := map_get hx
  have hlt : i < n := by
    have := (List.getElem?_eq_some_iff.mp h1).1
    simpa using this
  have hj : j = i := by
    rw [List.getElem?_range hlt] at h1
    cases h1; rfl
  subst hj
  refine ⟨hlt, fun w H2 ⟨e2, ew⟩ => ?_⟩
  subst e2
  rw [ew]
  exact ⟨Ext.refl _, S', .int _⟩
def chars (x : Str) : List PV := x.cps.toList.map fun c => PV.str ⟨#[c]⟩
theorem it_str {x : Str} : ItOk K cl (Its x) (chars x) [] ρ H := by
  intro ρ' st' H' l e S' hc
  refine ⟨fun i hi => (by simpa [chars] using hi : x.cps.size ≤ i), fun i y hx => ?_⟩
  obtain ⟨j, h1, rfl⟩ := map_get hx
  have hlt : i < x.cps.size := by
    have := (List.getElem?_eq_some_iff.mp h1).1
    simpa using this
  refine ⟨hlt, fun w H2 ⟨e2, c, hcc, ew⟩ => ?_⟩
  subst e2
  rw [ew]
  have : c = j := by
    rw [Array.getElem?_toList] at h1
    rw [hcc] at h1
    cases h1; rfl
  rw [this]
  exact ⟨Ext.refl _, S', .str _⟩
/-- a sequence: a list of the store, or one that is only read -/
def lstOf2 (x : PV) (st : Sto) : Option (List PV × Gd) := match x with
  | .ref n => match st.get n with
    | .some (.lst xs) => .some (xs, [(n, .lst xs)])
    | _ => none
  | .rls xs => .some (xs, [])
  | _ => none
theorem seq_sq {x : PV} {v : V} {xs : List PV} {gd : Gd} (h : lstOf2 x st = .some (xs, gd)) (r : RelP K ρ H x v) (S : Sim K cl ρ st H) :
    ∃ a, v = .ref a ∧ ∀ ρ' st' H', Le ρ ρ' → Ext K H H' → Sim K cl ρ' st' H' → chk gd st' = true → ∃ vs, SqL K H' a vs ∧ RelPs K ρ' H' xs vs := by
  unfold lstOf2 at h
  split at h
  · next n =>
    split at h
    · next ys e =>
      cases h
      cases r with
      | @ref _ a hr =>
        refine ⟨_, rfl, fun ρ' st' H' l e S' hc => ?_⟩
        have hg : st'.get n = .some (.lst xs) := by simpa [chk] using hc
        obtain ⟨vs, q, rr⟩ := S'.at_ (l _ _ hr) hg
        exact ⟨vs, .inl (.inl q), rr⟩
    · cases h
  · cases h
    cases r with
    | rls q rr => exact ⟨_, rfl, fun ρ' st' H' l e S' hc => ⟨_, (e.w.rol _ _ q).sql, rr.mono l e⟩⟩
  · cases h
theorem seq_chk {x : PV} {xs : List PV} {gd : Gd} (h : lstOf2 x st = .some (xs, gd)) : chk gd st = true := by
  unfold lstOf2 at h
  split at h
  · split at h
    · next e => cases h; simp [chk, e]
    · cases h
  · cases h; rfl
  · cases h
def enumP (xs : List PV) : List PV := xs.zipIdx.map fun p => PV.tup [.int p.2, p.1]
theorem it_enum {x : PV} {a : Addr} {xs : List PV} {gd : Gd} (h : lstOf2 x st = .some (xs, gd)) (r : RelP K ρ H x (.ref a)) (S : Sim K cl ρ st H) : ItOk K cl (Ite K a) (enumP xs) gd ρ H := by
  obtain ⟨b, eb, k⟩ := seq_sq h r S
  cases eb
  intro ρ' st' H' l e S' hc
  obtain ⟨vs, q, rr⟩ := k ρ' st' H' l e S' hc
  have hl := rr.length
  refine ⟨fun i hi => ⟨vs, q, by simp [enumP] at hi; omega⟩, fun i y hy => ?_⟩
  obtain ⟨⟨z, j⟩, h1, rfl⟩ := map_get hy
  rw [List.getElem?_zipIdx] at h1
  obtain ⟨z', h2, h3⟩ := Option.map_eq_some_iff.mp h1
  cases h3
  obtain ⟨v, hv, rv⟩ := rr.get h2
  refine ⟨⟨vs, v, q, hv⟩, fun w H2 ⟨T, v2, ew, hT, e2, kk⟩ => ?_⟩
  subst e2
  rw [ew]
  have hv2 := kk vs q
  have ex : Ext K H' (upd H' T (.tup [.int (i : Nat), v2])) := Ext.new hT
  rw [show 0 + i = i by omega]
  exact ⟨ex, S'.plus hT, .tup upd_same (.cons (.int _) (.cons ((rr.getR h2 hv2).mono (Le.refl _) ex) .nil))⟩
def zipP (xs ys : List PV) : List PV := (xs.zip ys).map fun p => PV.tup [p.1, p.2]
theorem it_zip {x y : PV} {a b : Addr} {xs ys : List PV} {gd gd2 : Gd} (h : lstOf2 x st = .some (xs, gd)) (r : RelP K ρ H x (.ref a)) (h2 : lstOf2 y st = .some (ys, gd2)) (r2 : RelP K ρ H y (.ref b)) (S : Sim K cl ρ st H) : ItOk K cl (Itz K a b) (zipP xs ys) (gd ++ gd2) ρ H := by
  obtain ⟨_, eb, k⟩ := seq_sq h r S
  cases eb
  obtain ⟨_, eb, k2⟩ := seq_sq h2 r2 S
  cases eb
  intro ρ' st' H' l e S' hc
  have hc : chk gd st' = true ∧ chk gd2 st' = true := by simpa [chk] using hc
  obtain ⟨vs, q, rr⟩ := k ρ' st' H' l e S' hc.1
  obtain ⟨ws, q2, rr2⟩ := k2 ρ' st' H' l e S' hc.2
  have hl := rr.length
  have hl2 := rr2.length
  refine ⟨fun i hi => ⟨vs, ws, q, q2, by simp [zipP] at hi; omega⟩, fun i y hy => ?_⟩
  obtain ⟨⟨z, z2⟩, h1, rfl⟩ := map_get hy
  obtain ⟨h3, h4⟩ := List.getElem?_zip_eq_some.mp h1
  obtain ⟨v, hv, rv⟩ := rr.get h3
  obtain ⟨v2, hv2, rv2⟩ := rr2.get h4
  refine ⟨⟨vs, ws, v, v2, q, q2, hv, hv2⟩, fun w H2 ⟨T, u1, u2, ew, hT, e2, kk, kk2⟩ => ?_⟩
  subst e2
  rw [ew]
  have ex : Ext K H' (upd H' T (.tup [u1, u2])) := Ext.new hT
  exact ⟨ex, S'.plus hT, .tup upd_same (.cons ((rr.getR h3 (kk vs q)).mono (Le.refl _) ex) (.cons ((rr2.getR h4 (kk2 ws q2)).mono (Le.refl _) ex) .nil))⟩
end
end MP
set_option Elab.async false
set_option linter.all false
set_option maxRecDepth 100000
set_option maxHeartbeats 2000000
namespace MP
open PySem PySem.Spec L2
section
variable {X : Cx} {cl : CT} {W : WX} {a b c o e tg iter : Expr} {fa fb fc fo fe : ME} {ga gb : MT} {pos pos' apos cpos p tpos : Pos} {elts : List Expr} {kk : Nat}
/-- any plain expression, walked -/
def walkV (x : PV) (st : Sto) : Res (List PV × Gd) := match x with
  | .ref n => match st.get n with
    | some (.lst xs) => .ok (xs, [(n, .lst xs)]) st
    | some (.dct kvs true) => .ok (kvs.map (·.1), []) st
    | _ => .stuck
  | .rls xs => .ok (xs, []) st
  | .tup xs => .ok (xs, []) st
  | .ktp xs => .ok (xs, []) st
  | .str x => .ok (chars x, []) st
  | _ => .stuck
def mwE (fe : ME) : MW := fun σ st => (fe σ st).bind walkV
theorem mw_e (he : PE X e (tM X.K cl W fe)) : PI X tg e (tW X.K cl W (mwE fe)) := by
  refine (pi_or (pi_or (pi_list he) (pi_tup he)) (pi_or (pi_keys he) (pi_str he))).imp fun σ H R ⟨ρ, st, σp, S, rs, h⟩ => ?_
  unfold mwE at h
  -- by the value that comes
  have go : ∀ x st1, fe σp st = .ok x st1 → _ := fun x st1 q => by
    rw [q] at h
    have h : (walkV x st1).post X.K cl ρ H _ _ := h
    exact h
  cases q : fe σp st with
  | err z s => rw [q] at h; exact .inl (.inl ⟨ρ, st, σp, S, rs, by rw [q]; exact h⟩)
  | stuck => rw [q] at h; exact h.elim
  | ok x st1 =>
    have h := go x st1 q
    have mk : ∀ {Q : VK}, (∀ ρ1 H1 v, Le ρ ρ1 → Ext X.K H H1 → Sim X.K cl ρ1 st1 H1 → RelP X.K ρ1 H1 x v → Q v H1) → tM X.K cl W fe σ H Q := fun k => ⟨ρ, st, σp, S, rs, by
      rw [q]
      exact fun ρ1 H1 l1 e1 S1 v rv => k ρ1 H1 v l1 e1 S1 rv⟩
    unfold walkV at h
    split at h
    · next n =>
      split at h
      · next xs eq =>
        exact .inl (.inl (mk fun ρ1 H1 v l1 e1 S1 rv => by
          cases rv with
          | @ref _ a hr =>
            obtain ⟨vs, q1, r1⟩ := S1.at_ hr eq
            exact ⟨_, rfl, ⟨vs, .inl (.inl q1)⟩, h ρ1 H1 l1 e1 S1 _ (it_lst hr S1)⟩))
      · next kvs eq =>
        exact .inr (.inl (mk fun ρ1 H1 v l1 e1 S1 rv => by
          cases rv with
          | @ref _ a hr =>
            rcases dct_at S1 hr eq with ⟨o, ws, q1, r1⟩ | ⟨o, ws, q1, r1, _⟩
            · exact ⟨_, o, rfl, .inl ⟨ws, q1, h ρ1 H1 l1 e1 S1 _ (it_keys q1 r1)⟩⟩
            · exact ⟨_, o, rfl, .inr ⟨ws, q1, h ρ1 H1 l1 e1 S1 _ (it_keysT q1 r1)⟩⟩))
      · exact h.elim
    · next xs =>
      exact .inl (.inl (mk fun ρ1 H1 v l1 e1 S1 rv => by
        cases rv with
        | rls q1 r1 => exact ⟨_, rfl, ⟨_, q1.sql⟩, h ρ1 H1 l1 e1 S1 _ (it_rol q1 r1)⟩))
    · next xs =>
      exact .inl (.inr (mk fun ρ1 H1 v l1 e1 S1 rv => by
        cases rv with
        | tup q1 r1 => exact ⟨_, rfl, ⟨_, SqT.of q1⟩, h ρ1 H1 l1 e1 S1 _ (it_tup (fun H' e => SqT.of (e.w.tup _ _ q1)) r1)⟩))
    · next xs =>
      exact .inl (.inr (mk fun ρ1 H1 v l1 e1 S1 rv => by
        cases rv with
        | ktp q1 r1 => exact ⟨_, rfl, ⟨_, q1.sq⟩, h ρ1 H1 l1 e1 S1 _ (it_tup (fun H' e => q1.sq) r1)⟩))
    · next xs =>
      exact .inr (.inr (mk fun ρ1 H1 v l1 e1 S1 rv => by
        cases rv
        exact ⟨_, rfl, h ρ1 H1 l1 e1 S1 _ it_str⟩))
    · exact h.elim
/-- the pairs of a locked dict -/
def lockedK (x : PV) (st : Sto) : Option (List (PV × PV)) := match x with
  | .ref n => match st.get n with
    | some (.dct kvs true) => if kvs.all (fun p => (keyK p.1).isSome) = true then some kvs else none
    | _ => none
  | _ => none
theorem lockedK_at {K : PySem.W.Frag} {ρ : Rho} {H : Hp} {st : Sto} {x : PV} {v : V} {kvs : List (PV × PV)} (h : lockedK x st = some kvs) (r : RelP K ρ H x v) (S : Sim K cl ρ st H) : ∃ a o ws, v = .ref a ∧ H a = some (.frz o (.dK ws)) ∧ RelDk K ρ H kvs ws := by
  unfold lockedK at h
  split at h
  · split at h
    · next eq =>
      split at h
      · next hk =>
        cases h
        cases r with
        | @ref _ a hr =>
          rcases dct_at S hr eq with ⟨o, ws, q, r⟩ | ⟨o, ws, q, r, ne⟩
          · exact ⟨_, o, ws, rfl, q, r⟩
          · cases r with
            | nil => exact absurd rfl ne
            | @cons k _ _ _ _ _ hk2 _ _ => cases k <;> first | cases hk2 | simp [keyK] at hk
      · cases h
    · cases h
  · cases h
def mwDict (f : List (PV × PV) → List PV) (fe : ME) : MW := fun σ st => (fe σ st).bind fun x st1 => match lockedK x st1 with
  | some kvs => .ok (f kvs, []) st1
  | none => .stuck
theorem mwDict_go {t : TE → TI} {J : Addr → Obj → List (Key × V) → It} {f : List (PV × PV) → List PV} (hi : PI X tg iter (t (tM X.K cl W fe)))
    (ht : ∀ σ H R, tM X.K cl W fe σ H (fun x H1 => ∃ d o kvs, x = .ref d ∧ H1 d = some (.frz o (.dK kvs)) ∧ R (J d o kvs) H1) → t (tM X.K cl W fe) σ H R)
    (hJ : ∀ ρ H a o ws kvs, H a = some (.frz o (.dK ws)) → RelDk X.K ρ H kvs ws → ItOk X.K cl (J a o ws) (f kvs) [] ρ H) : PI X tg iter (tW X.K cl W (mwDict f fe)) :=
  hi.imp fun σ H R ⟨ρ, st, σp, S, rs, h⟩ => ht σ H R ⟨ρ, st, σp, S, rs, Res.post.imp (Res.post.bind h) (fun x st1 ρ1 H1 l1 e1 S1 h1 v rv => by
    split at h1
    · next kvs eq =>
      obtain ⟨a, o, ws, rfl, q, r⟩ := lockedK_at eq rv S1
      exact ⟨a, o, ws, rfl, q, Res.post.now S1 h1 _ (hJ _ _ _ _ _ _ q r)⟩
    · exact h1.elim) fun _ _ _ z => z⟩
theorem mw_values (he : PE X e (tM X.K cl W fe)) (hbase : attributeBase e "values" X.env (eval e X.env) = eval e X.env := by rfl) (hline : (apos.endLine == cpos.line) = true := by rfl) : PI X tg (.Call (.Attribute e "values" apos) [] [] cpos) (tW X.K cl W (mwDict (·.map (·.2)) fe)) :=
  mwDict_go (t := iVals) (pi_values he hbase hline) (fun _ _ _ h => h) fun _ _ _ _ _ _ q r => it_vals q r
theorem mw_keysM (he : PE X e (tM X.K cl W fe)) (hbase : attributeBase e "keys" X.env (eval e X.env) = eval e X.env := by rfl) (hline : (apos.endLine == cpos.line) = true := by rfl) : PI X tg (.Call (.Attribute e "keys" apos) [] [] cpos) (tW X.K cl W (mwDict (·.map (·.1)) fe)) :=
  mwDict_go (t := iKeysM) (pi_keysM he hbase hline) (fun _ _ _ h => h) fun _ _ _ _ _ _ q r => it_keys q r
theorem mw_items (he : PE X e (tM X.K cl W fe)) (hbase : attributeBase e "items" X.env (eval e X.env) = eval e X.env := by rfl) (hline : (apos.endLine == cpos.line) = true := by rfl) : PI X (.Tuple elts kk tpos) (.Call (.Attribute e "items" apos) [] [] cpos) (tW X.K cl W (mwDict (·.map fun p => .tup [p.1, p.2]) fe)) :=
  mwDict_go (t := iItems) (pi_items he hbase hline) (fun _ _ _ h => h) fun _ _ _ _ _ _ q r => it_items q r
/-- range(..) -/
def big62 (i : Int) : Bool := decide (-(2 ^ 62) ≤ i) && decide (i < 2 ^ 62)
theorem big62_of {i : Int} (h : big62 i = true) : -(2 ^ 62) ≤ i ∧ i < 2 ^ 62 := by
  unfold big62 at h
  rw [Bool.and_eq_true] at h
  exact ⟨of_decide_eq_true h.1, of_decide_eq_true h.2⟩
def mwR1 (g : MEs) : MW := fun σ st => (g σ st).bind fun xs st1 => match xs with
  | [.int j] => if big62 j = true then .ok (rngP 0 j.toNat, []) st1 else .stuck
  | _ => .stuck
def mwR2 (g : MEs) : MW := fun σ st => (g σ st).bind fun xs st1 => match xs with
  | [.int i, .int j] => if big62 i = true ∧ big62 j = true then .ok (rngP i (j - i).toNat, []) st1 else .stuck
  | _ => .stuck
def mwR3 (g : MEs) : MW := fun σ st => (g σ st).bind fun xs st1 => match xs with
  | [.int i, .int j, .int c] => if c ≠ 0 ∧ c.natAbs < 1073741824 ∧ Builtin.Range.small i j c = true ∧ 0 ≤ Builtin.Range.rangeSize i j c then .ok (rngC i c (Builtin.Range.rangeSize i j c).toNat, []) st1 else .stuck
  | _ => .stuck
variable {g : MEs}
theorem mw_range1 (hg : Gl X "range") (hm : X.mg "range" = none) (ha : PA X [a] (tMA X.K cl W g)) (hs : starEach [a] X.env = [(false, eval a X.env)] := by rfl) : PI X tg (.Call (.Name "range" p) [a] [] pos) (tW X.K cl W (mwR1 g)) :=
  (pi_range1 hg hm ha hs).imp fun σ H R ⟨ρ, st, σp, S, rs, h⟩ => ⟨ρ, st, σp, S, rs, Res.post.imp (Res.post.bind h) (fun xs st1 ρ1 H1 l1 e1 S1 h1 vs rv => by
    split at h1
    · next j =>
      split at h1
      · next hb =>
        cases rv with
        | cons r1 rr =>
          cases rr
          cases r1
          exact ⟨_, rfl, (big62_of hb).1, (big62_of hb).2, Res.post.now S1 h1 _ it_rng⟩
      · exact h1.elim
    · exact h1.elim) fun _ _ _ z => z⟩
theorem mw_range2 (hg : Gl X "range") (hm : X.mg "range" = none) (ha : PA X [a, b] (tMA X.K cl W g)) (hs : starEach [a, b] X.env = [(false, eval a X.env), (false, eval b X.env)] := by rfl) (hs2 : starEach [b] X.env = [(false, eval b X.env)] := by rfl) : PI X tg (.Call (.Name "range" p) [a, b] [] pos) (tW X.K cl W (mwR2 g)) :=
  (pi_range2 hg hm ha hs hs2).imp fun σ H R ⟨ρ, st, σp, S, rs, h⟩ => ⟨ρ, st, σp, S, rs, Res.post.imp (Res.post.bind h) (fun xs st1 ρ1 H1 l1 e1 S1 h1 vs rv => by
    split at h1
    · next i j =>
      split at h1
      · next hb =>
        cases rv with
        | cons r1 rr =>
          cases rr with
          | cons r2 rr =>
            cases rr
            cases r1
            cases r2
            exact ⟨_, _, rfl, ⟨(big62_of hb.1).1, (big62_of hb.1).2, (big62_of hb.2).1, (big62_of hb.2).2⟩, Res.post.now S1 h1 _ it_rng⟩
      · exact h1.elim
    · exact h1.elim) fun _ _ _ z => z⟩
theorem mw_range3 (hg : Gl X "range") (hm : X.mg "range" = none) (ha : PA X [a, b, c] (tMA X.K cl W g)) (hs : starEach [a, b, c] X.env = (false, eval a X.env) :: starEach [b, c] X.env := by rfl) (hpl : (backTo pos (starEach [b, c] X.env)).any (·.1) = false := by rfl) : PI X tg (.Call (.Name "range" p) [a, b, c] [] pos) (tW X.K cl W (mwR3 g)) :=
  (pi_range3 hg hm ha hs hpl).imp fun σ H R ⟨ρ, st, σp, S, rs, h⟩ => ⟨ρ, st, σp, S, rs, Res.post.imp (Res.post.bind h) (fun xs st1 ρ1 H1 l1 e1 S1 h1 vs rv => by
    split at h1
    · next i j k =>
      split at h1
      · next hb =>
        obtain ⟨b1, b2, b3, b4⟩ := hb
        cases rv with
        | cons r1 rr =>
          cases rr with
          | cons r2 rr =>
            cases rr with
            | cons r3 rr =>
              cases rr
              cases r1
              cases r2
              cases r3
              exact ⟨_, _, _, (Builtin.Range.rangeSize i j k).toNat, rfl, ⟨b1, b2, b3, by omega⟩, Res.post.now S1 h1 _ it_rngC⟩
      · exact h1.elim
    · exact h1.elim) fun _ _ _ z => z⟩
def mwEnum (g : MEs) : MW := fun σ st => (g σ st).bind fun xs st1 => match xs with
  | [x] => match lstOf2 x st1 with
    | some (ys, gd) => .ok (enumP ys, gd) st1
    | none => .stuck
  | _ => .stuck
theorem mw_enum (hg : Gl X "enumerate") (hm : X.mg "enumerate" = none) (ha : PA X [e] (tMA X.K cl W g)) (hs : starEach [e] X.env = [(false, eval e X.env)] := by rfl) : PI X (.Tuple elts kk tpos) (.Call (.Name "enumerate" p) [e] [] pos) (tW X.K cl W (mwEnum g)) :=
  (pi_enum hg hm ha hs).imp fun σ H R ⟨ρ, st, σp, S, rs, h⟩ => ⟨ρ, st, σp, S, rs, Res.post.imp (Res.post.bind h) (fun xs st1 ρ1 H1 l1 e1 S1 h1 vs rv => by
    split at h1
    · split at h1
      · next eq =>
        cases rv with
        | cons r1 rr =>
          cases rr
          obtain ⟨a, rfl, k⟩ := seq_sq eq r1 S1
          obtain ⟨ws, q, _⟩ := k _ _ _ (Le.refl _) (Ext.refl _) S1 (seq_chk eq)
          exact ⟨a, ws, rfl, q, Res.post.now S1 h1 _ (it_enum eq r1 S1)⟩
      · exact h1.elim
    · exact h1.elim) fun _ _ _ z => z⟩
def mwZip (g : MEs) : MW := fun σ st => (g σ st).bind fun xs st1 => match xs with
  | [x, y] => match lstOf2 x st1, lstOf2 y st1 with
    | some (xs, gd), some (ys, gd2) => .ok (zipP xs ys, gd ++ gd2) st1
    | _, _ => .stuck
  | _ => .stuck
theorem mw_zip (hg : Gl X "zip") (hm : X.mg "zip" = none) (ha : PA X [a, b] (tMA X.K cl W g)) (hs : starEach [a, b] X.env = (false, eval a X.env) :: starEach [b] X.env := by rfl) (hpl : (backTo pos (starEach [b] X.env)).any (·.1) = false := by rfl) : PI X (.Tuple elts kk tpos) (.Call (.Name "zip" p) [a, b] [] pos) (tW X.K cl W (mwZip g)) :=
  (pi_zip hg hm ha hs hpl).imp fun σ H R ⟨ρ, st, σp, S, rs, h⟩ => ⟨ρ, st, σp, S, rs, Res.post.imp (Res.post.bind h) (fun xs st1 ρ1 H1 l1 e1 S1 h1 vs rv => by
    split at h1
    · split at h1
      · next eq eq2 =>
        cases rv with
        | cons r1 rr =>
          cases rr with
          | cons r2 rr =>
            cases rr
            obtain ⟨a, rfl, k⟩ := seq_sq eq r1 S1
            obtain ⟨b, rfl, k2⟩ := seq_sq eq2 r2 S1
            obtain ⟨ws, q, _⟩ := k _ _ _ (Le.refl _) (Ext.refl _) S1 (seq_chk eq)
            obtain ⟨ws2, q2, _⟩ := k2 _ _ _ (Le.refl _) (Ext.refl _) S1 (seq_chk eq2)
            exact ⟨a, b, ws, ws2, rfl, q, q2, Res.post.now S1 h1 _ (it_zip eq r1 eq2 r2 S1)⟩
      · exact h1.elim
    · exact h1.elim) fun _ _ _ z => z⟩

def ResS.loop (r : ResS) (k : MS) : ResS := match r with
  | .nx σ s => k σ s
  | .ct σ s => k σ s
  | .bk σ s => .nx σ s
  | .rt v s => .rt v s
  | .err e σ s => .err e σ s
  | .stuck => .stuck
def forGo (gd : Gd) (g : MG) (b : MS) : List PV → MS
  | [], σ, st => if chk gd st = true then .nx σ st else .stuck
  | x :: xs, σ, st => if chk gd st = true then (match g x σ with
    | some σ2 => (b σ2 st).loop (forGo gd g b xs)
    | none => .stuck) else .stuck
def sFor (w : MW) (g : MG) (b : MS) : MS := fun σ st => (w σ st).toS σ fun p st1 => forGo p.2 g b p.1 σ st1
theorem loop_post {K : PySem.W.Frag} {ρ : Rho} {H : Hp} {r : ResS} {k : MS} {D : Ends} {N : L2.St → Hp → Prop} (h : (r.loop k).post K cl ρ H D W) (hN : ∀ ρ' H' σ' σp st, Le ρ ρ' → Ext K H H' → Sim K cl ρ' st H' → RelS K ρ' H' σp σ' → (k σp st).post K cl ρ' H' D W → N σ' H') :
    r.post K cl ρ H { D with nx := N, ct := N, bk := D.nx } W := by
  cases r with
  | nx σ s => exact fun ρ2 H2 σ2 l2 e2 s2 r2 => hN ρ2 H2 σ2 σ s l2 e2 s2 r2 (ResS.post.mono h l2 e2)
  | ct σ s => exact fun ρ2 H2 σ2 l2 e2 s2 r2 => hN ρ2 H2 σ2 σ s l2 e2 s2 r2 (ResS.post.mono h l2 e2)
  | bk σ s => exact h
  | rt v s => exact h
  | err e σ s => exact h
  | stuck => exact h
theorem ms_for {w : MW} {mg : MG} {vs : List Nat} {body : List Stmt} {s1 : MS} (hp : PassesOwn (model X.prog X.w) X.A X.env X.xe) (hc : X.calm = true) (hi : PI X tg iter (tW X.K cl W w)) (hg : PG X tg (tMG X.K vs mg)) (hb : PSs X body (tMS X.K cl W s1))
    (hs : ∀ x, foldedSetIterable iter X.env x = pure x := by intro _; rfl) : PS X (.For tg iter body [] pos) (tMS X.K cl W (sFor w mg s1)) :=
  (ps_for hp hc hi hg hb hs).imp fun D σ H ⟨ρ, st, σp, S, rs, h⟩ => by
    refine ⟨ρ, st, σp, S, rs, Res.post.imp (toS_post rs h) (fun p st1 ρ1 H1 l1 e1 S1 h1 J ok => ?_) fun _ _ _ z => z⟩
    obtain ⟨xs, gd⟩ := p
    have ok : ItOk X.K cl J xs gd ρ1 H1 := ok
    have h1 : (forGo gd mg s1 xs σp st1).post X.K cl ρ1 H1 D W := h1
    refine ⟨fun i m σ H => m + i = xs.length + 1 ∧ ∃ ρ2 st2 σ2, Le ρ1 ρ2 ∧ Ext X.K H1 H ∧ Sim X.K cl ρ2 st2 H ∧ RelS X.K ρ2 H σ2 σ ∧ (forGo gd mg s1 (xs.drop i) σ2 st2).post X.K cl ρ2 H D W, ⟨xs.length + 1, rfl, ρ1, st1, σp, Le.refl _, Ext.refl _, S1, rs.mono l1 e1, h1⟩, ?_⟩
    rintro i m σ2 H2 ⟨hm, ρ2, st2, σp2, l2, e2, S2, rs2, h2⟩
    by_cases hi : i < xs.length
    · rw [List.drop_eq_getElem_cons hi] at h2
      unfold forGo at h2
      split at h2
      · next hck =>
        obtain ⟨go, step⟩ := (ok ρ2 st2 H2 l2 e2 S2 hck).2 i xs[i] (List.getElem?_eq_getElem hi)
        split at h2
        · next σp3 hg3 =>
          refine .inr ⟨go, fun σ' H' => ∃ ρ' st' σp', Le ρ1 ρ' ∧ Ext X.K H1 H' ∧ Sim X.K cl ρ' st' H' ∧ RelS X.K ρ' H' σp' σ' ∧ (forGo gd mg s1 (xs.drop (i + 1)) σp' st').post X.K cl ρ' H' D W, fun σ' H' ⟨ρ', st', σp', a1, a2, a3, a4, a5⟩ => ⟨m - 1, by omega, by omega, ρ', st', σp', a1, a2, a3, a4, a5⟩, fun v H3 y => ?_⟩
          obtain ⟨e3, S3, rv⟩ := step v H3 y
          refine ⟨ρ2, σp2, xs[i], rs2.mono (Le.refl _) e3, rv, σp3, hg3, fun σ4 rs4 _ => ⟨ρ2, st2, σp3, S3, rs4, ?_⟩⟩
          exact loop_post (ResS.post.mono h2 (Le.refl _) e3) fun ρ' H' σ' σp' st' l' e' S' r' h' => ⟨ρ', st', σp', l2.trans l', (e2.trans e3).trans e', S', r', h'⟩
        · exact h2.elim
      · exact h2.elim
    · rw [List.drop_eq_nil_of_le (by omega)] at h2
      unfold forGo at h2
      split at h2
      · next hck => exact .inl ⟨(ok ρ2 st2 H2 l2 e2 S2 hck).1 i (by omega), nx_now S2 rs2 h2⟩
      · exact h2.elim

def whGo (c : MT) (b : MS) : Nat → MS
  | 0, _, _ => .stuck
  | n + 1, σ, st => (c σ st).toS σ fun t st1 => if t = true then (b σ st1).loop (whGo c b n) else .nx σ st1
def sWhile (n : Nat) (c : MT) (b : MS) : MS := fun σ st => whGo c b n σ st
theorem ms_while {n : Nat} {body : List Stmt} {s1 : MS} (hp : PassesOwn (model X.prog X.w) X.A X.env X.xe) (hc : PT X c (tMT X.K cl W ga)) (hb : PSs X body (tMS X.K cl W s1)) : PS X (.While c body [] pos) (tMS X.K cl W (sWhile n ga s1)) :=
  (ps_while hp hc hb).imp fun D σ H ⟨ρ, st, σp, S, rs, h⟩ => by
    refine ⟨fun m σ H => ∃ ρ2 st2 σ2, Sim X.K cl ρ2 st2 H ∧ RelS X.K ρ2 H σ2 σ ∧ (whGo ga s1 m σ2 st2).post X.K cl ρ2 H D W, ⟨n, ρ, st, σp, S, rs, h⟩, ?_⟩
    rintro m σ2 H2 ⟨ρ2, st2, σp2, S2, rs2, h2⟩
    cases m with
    | zero => exact h2.elim
    | succ m =>
      unfold whGo at h2
      refine ⟨ρ2, st2, σp2, S2, rs2, Res.post.imp (toS_post rs2 h2) (fun t st3 ρ3 H3 l3 e3 S3 h3 => ?_) fun _ _ _ z => z⟩
      cases t with
      | false => exact iteF (nx_now S3 (rs2.mono l3 e3) h3)
      | true =>
        refine iteT ⟨fun σ' H' => ∃ ρ' st' σp', Sim X.K cl ρ' st' H' ∧ RelS X.K ρ' H' σp' σ' ∧ (whGo ga s1 m σp' st').post X.K cl ρ' H' D W, fun σ' H' z => ⟨m, Nat.lt_succ_self m, z⟩, ρ3, st3, σp2, S3, rs2.mono l3 e3, ?_⟩
        have h3 : ((s1 σp2 st3).loop (whGo ga s1 m)).post X.K cl ρ3 H3 D W := h3
        exact loop_post h3 fun ρ' H' σ' σp' st' l' e' S' r' h' => ⟨ρ', st', σp', S', r', h'⟩

theorem mut_of {K : PySem.W.Frag} {ρ : Rho} {H : Hp} {kvs : List (PV × PV)} {u : HO} (h : RelD K ρ H kvs u) : Mut (some u) ∧ NotSeq (.frz default u) ∧ Soft u := by
  rcases h with ⟨vs, rfl, _⟩ | ⟨_, vs, rfl, _⟩
  · exact ⟨trivial, trivial, trivial⟩
  · exact ⟨trivial, trivial, trivial⟩
theorem notSeq_frz {K : PySem.W.Frag} {ρ : Rho} {H : Hp} {kvs : List (PV × PV)} {u : HO} {od : Obj} (h : RelD K ρ H kvs u) : NotSeq (.frz od u) := by
  rcases h with ⟨vs, rfl, _⟩ | ⟨_, vs, rfl, _⟩
  · trivial
  · trivial
theorem soft_of {K : PySem.W.Frag} {ρ : Rho} {H : Hp} {kvs : List (PV × PV)} {u : HO} (h : RelD K ρ H kvs u) : Soft u := by
  rcases h with ⟨vs, rfl, _⟩ | ⟨_, vs, rfl, _⟩
  · trivial
  · trivial
/-- locked: the store's object, then the heap's -/
theorem Sim.lock {K : PySem.W.Frag} {ρ : Rho} {H : Hp} {st : Sto} {n : Nat} {d : Addr} {kvs : List (PV × PV)} {u : HO} (S : Sim K cl ρ st H) (hr : ρ n = some d) (hu : H d = some u) (r : RelD K ρ H kvs u) (od : Obj) :
    Ext K H (upd H d (.frz od u)) ∧ Sim K cl ρ (st.set n (.dct kvs true)) (upd H d (.frz od u)) := by
  have ex : Ext K H (upd H d (.frz od u)) := Ext.write hu (soft_of r)
  exact ⟨ex, S.write hr hu (soft_of r).notSeq ⟨u, r.monoW (Le.refl _) ex.w, by rw [if_pos rfl]; exact ⟨od, upd_same⟩⟩⟩
/-- .. and unlocked -/
theorem Sim.unlock {K : PySem.W.Frag} {ρ ρ1 : Rho} {H H1 : Hp} {st : Sto} {n : Nat} {d : Addr} {kvs : List (PV × PV)} {u : HO} {od : Obj} (S : Sim K cl ρ1 st H1) (hr : ρ1 n = some d) (hu : H1 d = some (.frz od u)) (r : RelD K ρ H kvs u) (l : Le ρ ρ1) (e : ExtW K H H1) :
    ExtW K H1 (upd H1 d u) ∧ Sim K cl ρ1 (st.set n (.dct kvs false)) (upd H1 d u) := by
  have ex : ExtW K H1 (upd H1 d u) := ExtW.write hu (notSeq_frz r)
  exact ⟨ex, S.write hr hu (notSeq_frz r) ⟨u, r.monoW l (e.trans ex), by rw [if_neg Bool.false_ne_true]; exact upd_same⟩⟩
/-- from before the lock to behind it -/
theorem Ext.through {K : PySem.W.Frag} {H H1 : Hp} {d : Addr} {u : HO} {od : Obj} {ρ : Rho} {kvs : List (PV × PV)} (hu : H d = some u) (r : RelD K ρ H kvs u) (e : Ext K (upd H d (.frz od u)) H1) (h1 : H1 d = some (.frz od u)) : Ext K H (upd H1 d u) := by
  have e0 : Ext K H (upd H d (.frz od u)) := Ext.write hu (soft_of r)
  refine ⟨(e0.w.trans e.w).trans (ExtW.write h1 (notSeq_frz r)), fun a o v q => ?_⟩
  have ne : a ≠ d := fun z => by
    subst z
    rw [hu] at q
    cases q
    exact absurd (soft_of r) (fun s => s)
  rw [upd_ne ne]
  exact (e0.trans e).frz a o v q
def Res.unl {α : Type} (r : Res α) (f : Sto → Sto) : Res α := match r with
  | .ok a s => .ok a (f s)
  | .err e s => .err e s
  | .stuck => .stuck
def ResS.unl (r : ResS) (f : Sto → Sto) : ResS := match r with
  | .nx σ s => .nx σ (f s)
  | .ct σ s => .ct σ (f s)
  | .bk σ s => .bk σ (f s)
  | .rt v s => .rt v (f s)
  | .err e σ s => .err e σ s
  | .stuck => .stuck
/-- the dicts at ids locked, one after another -/
def lockE {α : Type} (f : Sto → Res α) : List Nat → Sto → Res α
  | [], st => f st
  | n :: r, st => match st.get n with
    | some (.dct kvs false) => (lockE f r (st.set n (.dct kvs true))).unl fun s => s.set n (.dct kvs false)
    | _ => lockE f r st
/-- locks, one after another -/
inductive LockN (t : TE) : L2.St → Hp → VK → Prop
  | here {σ : L2.St} {H : Hp} {Q : VK} (h : t σ H Q) : LockN t σ H Q
  | lock {σ : L2.St} {H : Hp} {Q : VK} (d : Addr) (u : HO) (hd : H d = some u) (mu : Mut (some u)) (h : ∀ od, LockN t σ (upd H d (.frz od u)) fun v H' => H' d = some (.frz od u) ∧ Q v (upd H' d u)) : LockN t σ H Q
theorem pe_lockN {t : TE} (he : PE X e t) : PE X e (LockN t) := by
  refine ⟨fun pins s σ H Q I h => ?_⟩
  induction h generalizing s with
  | here h => exact he.run pins s _ _ _ I h
  | lock d u hd mu h ih =>
    obtain ⟨od, I1⟩ := I.lock hd mu
    refine thn (ih od s I1) fun v s1 ⟨x, H1, I2, r, e2, q⟩ => ?_
    exact ⟨x, _, I2.unlock e2 (I.nofrz hd mu), r, q⟩
def mLock (ids : Sl → Sto → List Nat) (f : ME) : ME := fun σ st => lockE (f σ) (ids σ st) st
theorem lockE_go {f : ME} {σp : Sl} {σ : L2.St} : ∀ (ids : List Nat) (ρ : Rho) (st : Sto) (H : Hp) (Q : VK), Sim X.K cl ρ st H → RelS X.K ρ H σp σ → (lockE (f σp) ids st).post X.K cl ρ H (Val X.K Q) (fun C d H' => W C d σ H') → LockN (tM X.K cl W f) σ H Q
  | [], ρ, st, H, Q, S, rs, h => .here ⟨ρ, st, σp, S, rs, h⟩
  | n :: r, ρ, st, H, Q, S, rs, h => by
    unfold lockE at h
    split at h
    · next kvs eq =>
      obtain ⟨d, hr, u, rd, hu⟩ := S.obj _ _ eq
      rw [if_neg Bool.false_ne_true] at hu
      refine .lock d u hu (mut_of rd).1 fun od => ?_
      obtain ⟨ex, S1⟩ := S.lock hr hu rd od
      refine lockE_go r ρ _ _ _ S1 (rs.mono (Le.refl _) ex) ?_
      cases q : lockE (f σp) r (st.set n (.dct kvs true)) with
      | err z s => rw [q] at h; exact fun ρ1 H1 C d l1 e1 s1 x1 => h ρ1 H1 C d l1 (ex.trans e1) s1 x1
      | stuck => rw [q] at h; exact h.elim
      | ok x s =>
        rw [q] at h
        intro ρ1 H1 l1 e1 s1 v rv
        have h1 := e1.frz d od u upd_same
        obtain ⟨ex2, S2⟩ := Sim.unlock s1 (l1 _ _ hr) h1 rd l1 (ex.w.trans e1.w)
        exact ⟨h1, h ρ1 _ l1 (Ext.through hu rd e1 h1) S2 v (rv.monoW (Le.refl _) ex2)⟩
    · exact lockE_go r ρ st H Q S rs h
theorem me_lock {f : ME} (ids : Sl → Sto → List Nat) (he : PE X e (tM X.K cl W f)) : PE X e (tM X.K cl W (mLock ids f)) :=
  (pe_lockN he).imp fun σ H Q ⟨ρ, st, σp, S, rs, h⟩ => lockE_go (ids σp st) ρ st H Q S rs h
/-- the dict that an expression's value is, and the dicts among its values -/
def idE (fe : ME) : Sl → Sto → List Nat := fun σ st => match fe σ st with
  | .ok (.ref n) _ => [n]
  | _ => []
def refs (xs : List PV) : List Nat := xs.filterMap fun x => match x with
  | .ref n => some n
  | _ => none
def idE2 (fe : ME) : Sl → Sto → List Nat := fun σ st => match fe σ st with
  | .ok (.ref n) _ => (match st.get n with
    | some (.dct kvs _) => n :: refs (kvs.map (·.2))
    | some (.lst xs) => refs xs
    | _ => [n])
  | .ok (.tup xs) _ => refs xs
  | _ => []
/-- a statement under one lock -/
def sLock (fe : ME) (f : MS) : MS := fun σ st => match fe σ st with
  | .ok (.ref n) _ => (match st.get n with
    | some (.dct kvs false) => (f σ (st.set n (.dct kvs true))).unl fun s => s.set n (.dct kvs false)
    | _ => f σ st)
  | _ => f σ st
theorem ms_lock {st0 : Stmt} {s1 : MS} (fe : ME) (h : PS X st0 (tMS X.K cl W s1)) : PS X st0 (tMS X.K cl W (sLock fe s1)) := by
  have hor : PS X st0 (fun D σ H => tMS X.K cl W s1 D σ H ∨ tLock (tMS X.K cl W s1) D σ H) := ⟨fun pins s σ H D I q => q.elim (h.run pins s σ H D I) ((ps_lock h).run pins s σ H D I)⟩
  refine hor.imp fun D σ H ⟨ρ, st, σp, S, rs, h⟩ => ?_
  unfold sLock at h
  split at h
  · next n _ _ =>
    split at h
    · next kvs eq =>
      obtain ⟨d, hr, u, rd, hu⟩ := S.obj _ _ eq
      rw [if_neg Bool.false_ne_true] at hu
      refine .inr ⟨d, u, hu, (mut_of rd).1, fun od => ?_⟩
      obtain ⟨ex, S1⟩ := S.lock hr hu rd od
      refine ⟨ρ, _, σp, S1, rs.mono (Le.refl _) ex, ?_⟩
      have go : ∀ {ρ1 : Rho} {H1 : Hp} {s : Sto} (l1 : Le ρ ρ1) (e1 : Ext X.K (upd H d (.frz od u)) H1) (s1 : Sim X.K cl ρ1 s H1),
          H1 d = some (.frz od u) ∧ ExtW X.K H1 (upd H1 d u) ∧ Ext X.K H (upd H1 d u) ∧ Sim X.K cl ρ1 (s.set n (.dct kvs false)) (upd H1 d u) := fun {ρ1 H1 s} l1 e1 s1 => by
        have h1 := e1.frz d od u upd_same
        obtain ⟨ex2, S2⟩ := Sim.unlock s1 (l1 _ _ hr) h1 rd l1 (ex.w.trans e1.w)
        exact ⟨h1, ex2, Ext.through hu rd e1 h1, S2⟩
      cases q : s1 σp (st.set n (.dct kvs true)) with
      | nx σ2 s =>
        rw [q] at h
        intro ρ1 H1 σ3 l1 e1 s1 r1
        obtain ⟨h1, ex2, e3, S2⟩ := go l1 e1 s1
        exact ⟨h1, h ρ1 _ σ3 l1 e3 S2 (r1.monoW (Le.refl _) ex2)⟩
      | ct σ2 s =>
        rw [q] at h
        intro ρ1 H1 σ3 l1 e1 s1 r1
        obtain ⟨h1, ex2, e3, S2⟩ := go l1 e1 s1
        exact ⟨h1, h ρ1 _ σ3 l1 e3 S2 (r1.monoW (Le.refl _) ex2)⟩
      | bk σ2 s =>
        rw [q] at h
        intro ρ1 H1 σ3 l1 e1 s1 r1
        obtain ⟨h1, ex2, e3, S2⟩ := go l1 e1 s1
        exact ⟨h1, h ρ1 _ σ3 l1 e3 S2 (r1.monoW (Le.refl _) ex2)⟩
      | rt v s =>
        rw [q] at h
        intro ρ1 H1 w l1 e1 s1 r1
        obtain ⟨h1, ex2, e3, S2⟩ := go l1 e1 s1
        exact ⟨h1, h ρ1 _ w l1 e3 S2 (r1.monoW (Le.refl _) ex2)⟩
      | err z σ2 s =>
        rw [q] at h
        exact fun ρ1 H1 C dd σ3 l1 e1 s1 r1 x1 => h ρ1 H1 C dd σ3 l1 (ex.trans e1) s1 r1 x1
      | stuck => rw [q] at h; exact h.elim
    · exact .inl ⟨ρ, st, σp, S, rs, h⟩
  · exact .inl ⟨ρ, st, σp, S, rs, h⟩
end
end MP
set_option Elab.async false
set_option linter.all false
set_option maxRecDepth 100000
set_option maxHeartbeats 2000000
namespace MP
open PySem PySem.Spec L2
theorem wipe_wipe {σ : L2.St} {vs : List Nat} : wipe (wipe σ vs) vs = wipe σ vs := by
  apply List.ext_getElem?
  intro j
  by_cases hj : j ∈ vs
  · by_cases hl : j < σ.length
    · rw [wipe_get hj (by rw [wipe_length]; exact hl), wipe_get hj hl]
    · rw [List.getElem?_eq_none (by rw [wipe_length, wipe_length]; omega), List.getElem?_eq_none (by rw [wipe_length]; omega)]
  · rw [wipe_out hj]
def Res.calm {α : Type} (r : Res α) : Res α := match r with
  | .err _ _ => .stuck
  | r => r
theorem calm_post {α : Type} {K : PySem.W.Frag} {cl : CT} {ρ : Rho} {H : Hp} {r : Res α} {P : α → Sto → Rho → Hp → Prop} {E E' : Value → Option Addr → Hp → Prop} (h : (Res.calm r).post K cl ρ H P E) : r.post K cl ρ H P E' := by
  cases r with
  | ok a s => exact h
  | err e s => exact h.elim
  | stuck => exact h
def cpGo (gd : Gd) (g : MG) (step : Sl → Sto → Res Unit) (σw : Sl) : List PV → Sto → Res Unit
  | [], st => if chk gd st = true then .ok () st else .stuck
  | x :: xs, st => if chk gd st = true then (match g x σw with
    | some σ2 => (step σ2 st).calm.bind fun _ st1 => cpGo gd g step σw xs st1
    | none => .stuck) else .stuck
section
variable {K : PySem.W.Frag} {cl : CT}
theorem cp_loop {J : It} {xs : List PV} {gd : Gd} {ρ1 : Rho} {H1 : Hp} {g : MG} {step : Sl → Sto → Res Unit} {σw : Sl} {st1 : Sto} {Fin : Hp → Prop} {E : Value → Option Addr → Hp → Prop} {Body : V → Hp → (Hp → Prop) → Prop}
    (ok : ItOk K cl J xs gd ρ1 H1) (S1 : Sim K cl ρ1 st1 H1) (h : (cpGo gd g step σw xs st1).post K cl ρ1 H1 (fun _ _ _ H' => Fin H') E)
    (hb : ∀ v H' Nx x ρ' st' σ2, Le ρ1 ρ' → Ext K H1 H' → Sim K cl ρ' st' H' → RelP K ρ' H' x v → g x σw = some σ2 → (step σ2 st').post K cl ρ' H' (fun _ _ _ H'' => Nx H'') (fun _ _ _ => False) → Body v H' Nx) :
    ∃ W : Nat → Nat → Hp → Prop, (∃ m, W 0 m H1) ∧ ∀ i m H, W i m H →
      (J.stop i H ∧ Fin H) ∨ (J.go i H ∧ ∃ Nx : Hp → Prop, (∀ H', Nx H' → ∃ m', m' < m ∧ W (i + 1) m' H') ∧ ∀ v H', J.yld i H v H' → Body v H' Nx) := by
  refine ⟨fun i m H => m + i = xs.length + 1 ∧ ∃ ρ2 st2, Le ρ1 ρ2 ∧ Ext K H1 H ∧ Sim K cl ρ2 st2 H ∧ (cpGo gd g step σw (xs.drop i) st2).post K cl ρ2 H (fun _ _ _ H' => Fin H') E, ⟨xs.length + 1, rfl, ρ1, st1, Le.refl _, Ext.refl _, S1, h⟩, ?_⟩
  rintro i m H2 ⟨hm, ρ2, st2, l2, e2, S2, h2⟩
  by_cases hi : i < xs.length
  · rw [List.drop_eq_getElem_cons hi] at h2
    unfold cpGo at h2
    split at h2
    · next hck =>
      obtain ⟨go, stp⟩ := (ok ρ2 st2 H2 l2 e2 S2 hck).2 i xs[i] (List.getElem?_eq_getElem hi)
      split at h2
      · next σ2 hg2 =>
        refine .inr ⟨go, fun H' => ∃ ρ' st', Le ρ1 ρ' ∧ Ext K H1 H' ∧ Sim K cl ρ' st' H' ∧ (cpGo gd g step σw (xs.drop (i + 1)) st').post K cl ρ' H' (fun _ _ _ H' => Fin H') E, fun H' ⟨ρ', st', a1, a2, a3, a4⟩ => ⟨m - 1, by omega, by omega, ρ', st', a1, a2, a3, a4⟩, fun v H3 y => ?_⟩
        obtain ⟨e3, S3, rv⟩ := stp v H3 y
        refine hb v H3 _ xs[i] ρ2 st2 σ2 l2 (e2.trans e3) S3 rv hg2 ?_
        exact Res.post.imp (calm_post (Res.post.bind (Res.post.mono h2 (Le.refl _) e3))) (fun _ st' ρ' H' l' e' S' h' => ⟨ρ', st', l2.trans l', (e2.trans e3).trans e', S', h'⟩) fun _ _ _ z => z
      · exact h2.elim
    · exact h2.elim
  · rw [List.drop_eq_nil_of_le (by omega)] at h2
    unfold cpGo at h2
    split at h2
    · next hck => exact .inl ⟨(ok ρ2 st2 H2 l2 e2 S2 hck).1 i (by omega), Res.post.now S2 h2⟩
    · exact h2.elim
end
def appD (D : Nat) (y : PV) (st : Sto) : Res Unit := match st.get D with
  | some (.lst acc) => if acc.length < sizeLine then .ok () (st.set D (.lst (acc ++ [y]))) else .stuck
  | _ => .stuck
def lcStep (ft : MT) (fe : ME) (D : Nat) : Sl → Sto → Res Unit := fun σ st => (ft σ st).bind fun b st1 => if b = true then (fe σ st1).bind fun y st2 => appD D y st2 else .ok () st1
def mLc (w : MW) (g : MG) (ft : MT) (fe : ME) (vs : List Nat) : ME := fun σ st => (w σ st).bind fun p st1 =>
  (cpGo p.2 g (lcStep ft fe st1.nx) (wipeP σ vs) p.1 (st1.add (.lst []))).bind fun _ st2 => .ok (.ref st1.nx) st2
def lc2Step (ft : MT) (w1 : MW) (g1 : MG) (vs1 : List Nat) (st1 : Sl → Sto → Res Unit) : Sl → Sto → Res Unit := fun σ st => (ft σ st).bind fun b s1 => if b = true then (w1 σ s1).bind fun p s2 => cpGo p.2 g1 st1 (wipeP σ vs1) p.1 s2 else .ok () s1
def mLc2 (w : MW) (g : MG) (ft : MT) (w1 : MW) (g1 : MG) (ft1 : MT) (fe : ME) (vs vs1 : List Nat) : ME := fun σ st => (w σ st).bind fun p st1 =>
  (cpGo p.2 g (lc2Step ft w1 g1 vs1 (lcStep ft1 fe st1.nx)) (wipeP σ vs) p.1 (st1.add (.lst []))).bind fun _ st2 => .ok (.ref st1.nx) st2
abbrev W0 : WX := fun _ _ _ _ => False
section
variable {X : Cx} {cl : CT} {W : WX} {elt tg iter tg1 iter1 : Expr} {ifs ifs1 : List Expr} {scope : Scope} {own : List (Str × Nat)} {pos spos py : Pos} {w w1 : MW} {mg mg1 : MG} {ft ft1 : MT} {fe fk : ME} {vs1 : List Nat}
def mtYes : MT := fun _ st => .ok true st
theorem mts_nil : PTs X [] (tMT X.K cl W mtYes) := ⟨fun pins s σ H Q I ⟨ρ, st, σp, S, rs, h⟩ => pts_nil.run pins s σ H Q I (Res.post.now S h)⟩
theorem mts_one {c : Expr} (h : PT X c (tMT X.K cl W ft)) : PTs X [c] (tMT X.K cl W ft) := pts_one h
/-- an item joins the list at D -/
theorem app_post {K : PySem.W.Frag} {ρ : Rho} {H : Hp} {st : Sto} {Dn : Nat} {D : Addr} {y : PV} {v : V} {Nx : Hp → Prop} {E : Value → Option Addr → Hp → Prop} (S : Sim K cl ρ st H) (hr : ρ Dn = some D) (ry : RelP K ρ H y v)
    (h : (appD Dn y st).post K cl ρ H (fun _ _ _ H' => Nx H') E) : ∃ acc, H D = some (.lst acc) ∧ acc.length < sizeLine ∧ Nx (upd H D (.lst (acc ++ [v]))) := by
  unfold appD at h
  split at h
  · next acc e =>
    split at h
    · next hl =>
      obtain ⟨vs, q, r⟩ := S.at_ hr e
      refine ⟨vs, q, by rw [← r.length]; exact hl, ?_⟩
      have ex : Ext K H (upd H D (.lst (vs ++ [v]))) := Ext.write q trivial
      exact h ρ _ (Le.refl _) ex (S.write hr q trivial ⟨_, upd_same, (r.append (.cons ry .nil)).mono (Le.refl _) ex⟩)
    · exact h.elim
  · exact h.elim
/-- a new empty list at D -/
theorem new_list {K : PySem.W.Frag} {ρ : Rho} {H : Hp} {st : Sto} {D : Addr} (S : Sim K cl ρ st H) (hD : H D = none) : Le ρ (ρ.put st.nx D) ∧ Ext K H (upd H D (.lst [])) ∧ Sim K cl (ρ.put st.nx D) (st.add (.lst [])) (upd H D (.lst [])) :=
  ⟨S.le_put D, Ext.new hD, S.new hD ⟨[], upd_same, .nil⟩⟩
theorem ItOk.later {K : PySem.W.Frag} {J : It} {xs : List PV} {gd : Gd} {ρ ρ' : Rho} {H H' : Hp} (h : ItOk K cl J xs gd ρ H) (l : Le ρ ρ') (e : Ext K H H') : ItOk K cl J xs gd ρ' H' := fun ρ2 st H2 l2 e2 => h ρ2 st H2 (l.trans l2) (e.trans e2)
theorem lc_go {σ : L2.St} {H : Hp} {Q : VK} {vs : List Nat} (h : tM X.K cl W (mLc w mg ft fe vs) σ H Q) : tLc (tW X.K cl W w) (tMG X.K vs mg) (tMT X.K cl W0 ft) (tM X.K cl W0 fe) vs σ H Q := by
  obtain ⟨ρ, st, σp, S, rs, h⟩ := h
  refine ⟨ρ, st, σp, S, rs, Res.post.imp (Res.post.bind h) (fun p st1 ρ1 H1 l1 e1 S1 h1 J ok D hD => ?_) fun _ _ _ z => z⟩
  obtain ⟨l2, e2, S2⟩ := new_list S1 hD
  have hD2 : (ρ1.put st1.nx D) st1.nx = some D := Rho.put_same
  have h2 := Res.post.bind (Res.post.mono h1 l2 e2)
  refine cp_loop (Fin := fun H => Q (.ref D) H) (ok.later l2 e2) S2 (Res.post.imp h2 (fun _ st' ρ' H' l' e' S' h' => Res.post.now S' h' _ (.ref (l' _ _ hD2))) fun _ _ _ z => z) ?_
  intro v H3 Nx x ρ3 st3 σ3 l3 e3 S3 rv hg3 h3
  refine ⟨ρ3, wipeP σp vs, x, ((rs.mono (l1.trans l2) (e1.trans e2)).mono l3 e3).wipe vs, rv, σ3, hg3, fun σ4 rs4 hw4 => ⟨by rw [hw4, wipe_wipe], ρ3, st3, σ3, S3, rs4, ?_⟩⟩
  refine Res.post.imp (Res.post.bind h3) (fun b st4 ρ4 H4 l4 e4 S4 h4 => ?_) fun _ _ _ z => z
  cases b with
  | false => exact iteF (Res.post.now S4 h4)
  | true =>
    refine iteT ⟨ρ4, st4, σ3, S4, rs4.mono l4 e4, Res.post.imp (Res.post.bind h4) (fun y st5 ρ5 H5 l5 e5 S5 h5 u ru => ?_) fun _ _ _ z => z⟩
    exact app_post S5 (l5 _ _ (l4 _ _ (l3 _ _ hD2))) ru h5
theorem me_lc (hc : X.calm = true) (hN : X.N.Nodup) (hi : PI X tg iter (tW X.K cl W w)) (ok : BlkOk X.N X.env.scope scope own)
    (hg : ∀ (s : Shared) (H : Hp) (C : Addr) (cc : List (Str × Addr)) (fp : List Addr), PG (X.blk s H scope (compEnvC scope cc C X.env) fp) tg (tMG X.K (own.map (·.2)) mg))
    (ht : ∀ (s : Shared) (H : Hp) (C : Addr) (cc : List (Str × Addr)) (fp : List Addr), PTs (X.blk s H scope (compEnvC scope cc C X.env) fp) ifs (tMT X.K cl W0 ft))
    (he : ∀ (s : Shared) (H : Hp) (C : Addr) (cc : List (Str × Addr)) (fp : List Addr), PE (X.blk s H scope (compEnvC scope cc C X.env) fp) elt (tM X.K cl W0 fe)) (hs : ∀ x, foldedSetIterable iter X.env x = pure x := by intro _; rfl) :
    PE X (.ListComp elt [⟨tg, iter, ifs, 0⟩] scope pos) (tM X.K cl W (mLc w mg ft fe (own.map (·.2)))) :=
  (pe_lc hc hN hi ok hg ht he hs).imp fun σ H Q h => lc_go h
theorem ms_setLc {i : Nat} {y : Str} (hc : X.calm = true) (hN : X.N.Nodup) (hy : X.N[i]? = some y) (hyl : X.env.scope.names.lookup y = some .local) (hsw : swapsWith (.ListComp elt [⟨tg, iter, ifs, 0⟩] scope pos) (some (.Name y py)) spos.line X.env = pure true)
    (hi : PI X tg iter (tW X.K cl W w)) (ok : BlkOk X.N X.env.scope scope own)
    (hg : ∀ (s : Shared) (H : Hp) (C : Addr) (cc : List (Str × Addr)) (fp : List Addr), PG (X.blk s H scope (compEnvC scope cc C X.env) fp) tg (tMG X.K (own.map (·.2)) mg))
    (ht : ∀ (s : Shared) (H : Hp) (C : Addr) (cc : List (Str × Addr)) (fp : List Addr), PTs (X.blk s H scope (compEnvC scope cc C X.env) fp) ifs (tMT X.K cl W0 ft))
    (he : ∀ (s : Shared) (H : Hp) (C : Addr) (cc : List (Str × Addr)) (fp : List Addr), PE (X.blk s H scope (compEnvC scope cc C X.env) fp) elt (tM X.K cl W0 fe)) (hs : ∀ x, foldedSetIterable iter X.env x = pure x := by intro _; rfl) :
    PS X (.Assign [.Name y py] (.ListComp elt [⟨tg, iter, ifs, 0⟩] scope pos) spos) (tMS X.K cl W (sSet i (mLc w mg ft fe (own.map (·.2))))) :=
  (ps_setLc hc hN hy hyl hsw hi ok hg ht he hs).imp fun D σ H ⟨ρ, st, σp, S, rs, h⟩ =>
    lc_go (Q := fun x H1 => gName i x σ H1 D.nx) ⟨ρ, st, σp, S, rs, Res.post.imp (toS_post rs h) (fun x st1 ρ1 H1 l1 e1 S1 h1 v rv => nx_now S1 ((rs.mono l1 e1).set i rv) h1) fun _ _ _ z => z⟩
theorem lc2_go {σ : L2.St} {H : Hp} {Q : VK} {vs : List Nat} (h : tM X.K cl W (mLc2 w mg ft w1 mg1 ft1 fe vs vs1) σ H Q) : tLc2 (tW X.K cl W w) (tMG X.K vs mg) (tMT X.K cl W0 ft) (tW X.K cl W0 w1) (tMG X.K vs1 mg1) (tMT X.K cl W0 ft1) (tM X.K cl W0 fe) vs vs1 σ H Q := by
  obtain ⟨ρ, st, σp, S, rs, h⟩ := h
  refine ⟨ρ, st, σp, S, rs, Res.post.imp (Res.post.bind h) (fun p st1 ρ1 H1 l1 e1 S1 h1 J ok D hD => ?_) fun _ _ _ z => z⟩
  obtain ⟨l2, e2, S2⟩ := new_list S1 hD
  have hD2 : (ρ1.put st1.nx D) st1.nx = some D := Rho.put_same
  have h2 := Res.post.bind (Res.post.mono h1 l2 e2)
  refine cp_loop (Fin := fun H => Q (.ref D) H) (ok.later l2 e2) S2 (Res.post.imp h2 (fun _ st' ρ' H' l' e' S' h' => Res.post.now S' h' _ (.ref (l' _ _ hD2))) fun _ _ _ z => z) ?_
  intro v H3 Nx x ρ3 st3 σ3 l3 e3 S3 rv hg3 h3
  refine ⟨ρ3, wipeP σp vs, x, ((rs.mono (l1.trans l2) (e1.trans e2)).mono l3 e3).wipe vs, rv, σ3, hg3, fun σ4 rs4 hw4 => ⟨by rw [hw4, wipe_wipe], ρ3, st3, σ3, S3, rs4, ?_⟩⟩
  refine Res.post.imp (Res.post.bind h3) (fun b st4 ρ4 H4 l4 e4 S4 h4 => ?_) fun _ _ _ z => z
  cases b with
  | false => exact iteF (Res.post.now S4 h4)
  | true =>
    refine iteT ⟨ρ4, st4, σ3, S4, rs4.mono l4 e4, Res.post.imp (Res.post.bind h4) (fun p1 st5 ρ5 H5 l5 e5 S5 h5 J1 ok1 => ?_) fun _ _ _ z => z⟩
    refine cp_loop (Fin := Nx) ok1 S5 h5 ?_
    intro v6 H6 Nx1 x6 ρ6 st6 σ6 l6 e6 S6 rv6 hg6 h6
    refine ⟨ρ6, wipeP σ3 vs1, x6, (((rs4.mono l4 e4).mono l5 e5).mono l6 e6).wipe vs1, rv6, σ6, hg6, fun σ7 rs7 hw7 => ⟨by rw [hw7, wipe_wipe], ρ6, st6, σ6, S6, rs7, ?_⟩⟩
    refine Res.post.imp (Res.post.bind h6) (fun b st7 ρ7 H7 l7 e7 S7 h7 => ?_) fun _ _ _ z => z
    cases b with
    | false => exact iteF (Res.post.now S7 h7)
    | true =>
      refine iteT ⟨ρ7, st7, σ6, S7, rs7.mono l7 e7, Res.post.imp (Res.post.bind h7) (fun y st8 ρ8 H8 l8 e8 S8 h8 u ru => ?_) fun _ _ _ z => z⟩
      exact app_post S8 (l8 _ _ (l7 _ _ (l6 _ _ (l5 _ _ (l4 _ _ (l3 _ _ hD2)))))) ru h8
theorem me_lc2 (hc : X.calm = true) (hN : X.N.Nodup) (hi : PI X tg iter (tW X.K cl W w)) (ok : BlkOk X.N X.env.scope scope own) (hv : ∀ i ∈ vs1, i ∈ own.map (·.2))
    (hg : ∀ (s : Shared) (H : Hp) (C : Addr) (cc : List (Str × Addr)) (fp : List Addr), PG (X.blk s H scope (compEnvC scope cc C X.env) fp) tg (tMG X.K (own.map (·.2)) mg))
    (ht : ∀ (s : Shared) (H : Hp) (C : Addr) (cc : List (Str × Addr)) (fp : List Addr), PTs (X.blk s H scope (compEnvC scope cc C X.env) fp) ifs (tMT X.K cl W0 ft))
    (hi1 : ∀ (s : Shared) (H : Hp) (C : Addr) (cc : List (Str × Addr)) (fp : List Addr), PI (X.blk s H scope (compEnvC scope cc C X.env) fp) tg1 iter1 (tW X.K cl W0 w1))
    (hg1 : ∀ (s : Shared) (H : Hp) (C : Addr) (cc : List (Str × Addr)) (fp : List Addr), PG (X.blk s H scope (compEnvC scope cc C X.env) fp) tg1 (tMG X.K vs1 mg1))
    (ht1 : ∀ (s : Shared) (H : Hp) (C : Addr) (cc : List (Str × Addr)) (fp : List Addr), PTs (X.blk s H scope (compEnvC scope cc C X.env) fp) ifs1 (tMT X.K cl W0 ft1))
    (he : ∀ (s : Shared) (H : Hp) (C : Addr) (cc : List (Str × Addr)) (fp : List Addr), PE (X.blk s H scope (compEnvC scope cc C X.env) fp) elt (tM X.K cl W0 fe)) (hs : ∀ x, foldedSetIterable iter X.env x = pure x := by intro _; rfl) (hs1 : ∀ env x, foldedSetIterable iter1 env x = pure x := by intro _ _; rfl) :
    PE X (.ListComp elt [⟨tg, iter, ifs, 0⟩, ⟨tg1, iter1, ifs1, 0⟩] scope pos) (tM X.K cl W (mLc2 w mg ft w1 mg1 ft1 fe (own.map (·.2)) vs1)) :=
  (pe_lc2 hc hN hi ok hv hg ht hi1 hg1 ht1 he hs hs1).imp fun σ H Q h => lc2_go h
end
end MP
set_option Elab.async false
set_option linter.all false
set_option maxRecDepth 100000
set_option maxHeartbeats 2000000
namespace MP
open PySem PySem.Spec L2
abbrev PF := List PV → Sto → Option (PV × Sto)
/-- a built-in's reading by a pure function -/
def rG (K : PySem.W.Frag) (cl : CT) (g : PF) : List V → Hp → VK → Prop := fun vs H Q => ∃ ρ st xs v st', Sim K cl ρ st H ∧ RelPs K ρ H xs vs ∧ g xs st = some (v, st') ∧ (Res.ok v st').post K cl ρ H (Val K Q) NoE
def gOr (g1 g2 : PF) : PF := fun xs st => match g1 xs st with
  | some r => some r
  | none => g2 xs st
section
variable {X : Cx} {cl : CT} {W : WX} {f : Value} {g g1 g2 : PF}
theorem CR_or (h1 : CallR X f (rG X.K cl g1)) (h2 : CallR X f (rG X.K cl g2)) : CallR X f (rG X.K cl (gOr g1 g2)) := by
  intro pins s σ H xs us Q I r ⟨ρ, st, ys, v, st', S, rs, e, h⟩
  unfold gOr at e
  cases q : g1 ys st with
  | some p =>
    rw [q] at e
    have e : p = (v, st') := Option.some.inj e
    subst e
    exact h1 pins s σ H xs us Q I r ⟨ρ, st, ys, v, st', S, rs, q, h⟩
  | none =>
    rw [q] at e
    exact h2 pins s σ H xs us Q I r ⟨ρ, st, ys, v, st', S, rs, e, h⟩
theorem CR_imp {r : List V → Hp → VK → Prop} (h : CallR X f r) (i : ∀ ρ st H xs vs v st' (Q : VK), Sim X.K cl ρ st H → RelPs X.K ρ H xs vs → g xs st = some (v, st') → (Res.ok v st').post X.K cl ρ H (Val X.K Q) NoE → r vs H Q) : CallR X f (rG X.K cl g) :=
  fun pins s σ H xs us Q I r ⟨ρ, st, ys, v, st', S, rs, e, q⟩ => h pins s σ H xs us Q I r (i ρ st H ys xs v st' Q S rs e q)
def mB (g : PF) (ga : MEs) : ME := fun σ st => (ga σ st).bind fun xs st1 => match g xs st1 with
  | some (v, st2) => .ok v st2
  | none => .stuck
variable {x : Str} {p pos : Pos} {e : Expr} {es : List Expr} {ga : MEs} {id T : String}
theorem mB_go {σ : L2.St} {H : Hp} {Q : VK} (h : tM X.K cl W (mB g ga) σ H Q) : tCB (rG X.K cl g) (tMA X.K cl W ga) σ H Q := by
  obtain ⟨ρ, st, σp, S, rs, h⟩ := h
  refine ⟨ρ, st, σp, S, rs, Res.post.imp (Res.post.bind h) (fun xs st1 ρ1 H1 l1 e1 S1 h1 vs rv => ?_) fun _ _ _ z => z⟩
  split at h1
  · next v st2 eq => exact ⟨ρ1, st1, xs, v, st2, S1, rv, eq, h1⟩
  · exact h1.elim
theorem me_callB (hc : CallR X (.builtin id) (rG X.K cl g)) (hg : Gl X x) (hm : X.mg x = none) (hv : bootBuiltins x = some (.builtin id)) (ha : PA X (e :: es) (tMA X.K cl W ga)) (hn : x ≠ "__name__" := by decide) (hdb : (x == ("__debug__" : Str)) = false := by decide)
    (he : starEach (e :: es) X.env = (false, eval e X.env) :: starEach es X.env := by rfl) (hpl : (backTo pos (starEach es X.env)).any (·.1) = false := by rfl) : PE X (.Call (.Name x p) (e :: es) [] pos) (tM X.K cl W (mB g ga)) :=
  (pe_callB hc hg hm hv ha hn hdb he hpl).imp fun σ H Q h => mB_go h
theorem me_callTy (hc : CallR X (.type T) (rG X.K cl g)) (hg : Gl X x) (hm : X.mg x = none) (hv : bootBuiltins x = some (.type T)) (ha : PA X (e :: es) (tMA X.K cl W ga)) (hn : x ≠ "__name__" := by decide) (hdb : (x == ("__debug__" : Str)) = false := by decide)
    (he : starEach (e :: es) X.env = (false, eval e X.env) :: starEach es X.env := by rfl) (hpl : (backTo pos (starEach es X.env)).any (·.1) = false := by rfl) : PE X (.Call (.Name x p) (e :: es) [] pos) (tM X.K cl W (mB g ga)) :=
  (pe_callTy hc hg hm hv ha hn hdb he hpl).imp fun σ H Q h => mB_go h

def lenP (x : PV) (st : Sto) : Option Nat := match x with
  | .str z => if sz z.length then some z.length else none
  | .tup xs => some xs.length
  | .ktp xs => some xs.length
  | .rls xs => some xs.length
  | .ref n => match st.get n with
    | some (.lst xs) => some xs.length
    | some (.dct kvs _) => if kvs.all (fun p => (keyK p.1).isSome) = true then some kvs.length else none
    | _ => none
  | _ => none
def gLen : PF := fun xs st => match xs with
  | [x] => match lenP x st with
    | some n => some (.int n, st)
    | none => none
  | _ => none
/-- a dict of the store, read, its keys ints or texts -/
theorem rd_dk {K : PySem.W.Frag} {ρ : Rho} {st : Sto} {H : Hp} {n : Nat} {a : Addr} {kvs : List (PV × PV)} {lk : Bool} (S : Sim K cl ρ st H) (hr : ρ n = some a) (e : st.get n = some (.dct kvs lk)) (hk : kvs.all (fun p => (keyK p.1).isSome) = true) : ∃ ws, Rd H a (.dK ws) ∧ RelDk K ρ H kvs ws := by
  obtain ⟨u, r, q⟩ := S.at_ hr e
  rcases r with ⟨ws, rfl, r⟩ | ⟨ne, ws, rfl, r⟩
  · refine ⟨ws, ?_, r⟩
    split at q
    · obtain ⟨z, q⟩ := q; exact .inr ⟨z, q⟩
    · exact .inl q
  · cases r with
    | nil => exact absurd rfl ne
    | @cons k _ _ _ _ _ hk2 _ _ => cases k <;> first | cases hk2 | simp [keyK] at hk
theorem cr_len : CallR X (.builtin "len") (rG X.K cl gLen) := by
  intro pins s σ H vs us Q I r ⟨ρ, st, xs, v, st', S, rs, e, h⟩
  unfold gLen at e
  split at e
  · next x =>
    split at e
    · next n en =>
      cases e
      cases rs with
      | @cons _ v0 _ _ rx rr =>
        cases rr
        have q : ∀ {m : Nat}, n = m → Q (.int (m : Int)) H := fun {m} z => by subst z; exact Res.post.now S h _ (.int _)
        unfold lenP at en
        split at en
        · split at en
          · next hz =>
            cases en; cases rx
            exact call_len_str pins s σ H _ us Q I r ⟨_, rfl, sz_ok hz, q rfl⟩
          · cases en
        · cases en
          cases rx with
          | tup hq rr => exact call_len_seq pins s σ H _ us Q I r ⟨_, _, rfl, .inr (SqT.of hq), q rr.length⟩
        · cases en
          cases rx with
          | ktp hq rr => exact call_len_seq pins s σ H _ us Q I r ⟨_, _, rfl, .inr hq.sq, q rr.length⟩
        · cases en
          cases rx with
          | rls hq rr => exact call_len_seq pins s σ H _ us Q I r ⟨_, _, rfl, .inl hq.sql, q rr.length⟩
        · split at en
          · next eq =>
            cases en
            cases rx with
            | ref hr =>
              obtain ⟨ws, hq, rr⟩ := S.at_ hr eq
              exact call_len_seq pins s σ H _ us Q I r ⟨_, _, rfl, .inl (SqL.of hq), q rr.length⟩
          · next eq =>
            split at en
            · next hk =>
              cases en
              cases rx with
              | ref hr =>
                obtain ⟨ws, hq, rr⟩ := rd_dk S hr eq hk
                obtain ⟨u, rfl, ru⟩ := vals1 r
                cases ru
                exact d_len I hq fun t s' I' => ⟨.int ws.length, H, I', ⟨t, rfl⟩, q rr.length⟩
            · cases en
          · cases en
        · cases en
    · cases e
  · cases e

def gInt : PF := fun xs st => match xs with
  | [.int i] => some (.int i, st)
  | [.bl b] => some (.int (if b then 1 else 0), st)
  | _ => none
theorem cr_int : CallR X (.type "int") (rG X.K cl gInt) := CR_imp call_int1 fun ρ st H xs vs v st' Q S rs e h => by
  unfold gInt at e
  split at e
  · cases e
    cases rs with
    | cons rx rr => cases rr; cases rx; exact .inl ⟨_, rfl, Res.post.now S h _ (.int _)⟩
  · cases e
    cases rs with
    | cons rx rr => cases rr; cases rx; exact .inr ⟨_, rfl, Res.post.now S h _ (.int _)⟩
  · cases e
def gAbs : PF := fun xs st => match xs with
  | [.int i] => some (.int (if i < 0 then -i else i), st)
  | _ => none
theorem cr_abs : CallR X (.builtin "abs") (rG X.K cl gAbs) := CR_imp call_abs fun ρ st H xs vs v st' Q S rs e h => by
  unfold gAbs at e
  split at e
  · cases e
    cases rs with
    | cons rx rr => cases rr; cases rx; exact ⟨_, rfl, Res.post.now S h _ (.int _)⟩
  · cases e
def gStrS : PF := fun xs st => match xs with
  | [.str z] => some (.str z, st)
  | _ => none
def gMax2 : PF := fun xs st => match xs with
  | [.int i, .int j] => some (.int (if j > i then j else i), st)
  | _ => none
def gMin2 : PF := fun xs st => match xs with
  | [.int i, .int j] => some (.int (if j < i then j else i), st)
  | _ => none
theorem cr_max2 (hc : X.calm = true) : CallR X (.builtin "max") (rG X.K cl gMax2) := CR_imp (call_max2 hc) fun ρ st H xs vs v st' Q S rs e h => by
  unfold gMax2 at e
  split at e
  · cases e
    cases rs with
    | cons rx rr => cases rr with
      | cons ry rr => cases rr; cases rx; cases ry; exact ⟨_, _, rfl, Res.post.now S h _ (.int _)⟩
  · cases e
theorem cr_min2 (hc : X.calm = true) : CallR X (.builtin "min") (rG X.K cl gMin2) := CR_imp (call_min2 hc) fun ρ st H xs vs v st' Q S rs e h => by
  unfold gMin2 at e
  split at e
  · cases e
    cases rs with
    | cons rx rr => cases rr with
      | cons ry rr => cases rr; cases rx; cases ry; exact ⟨_, _, rfl, Res.post.now S h _ (.int _)⟩
  · cases e
/-- the ints of a list of values -/
def intsOf : List PV → Option (List Int)
  | [] => some []
  | .int i :: r => (intsOf r).map (i :: ·)
  | _ => none
theorem intsOf_rel {K : PySem.W.Frag} {ρ : Rho} {H : Hp} : ∀ {xs : List PV} {vs : List V} {ns : List Int}, RelPs K ρ H xs vs → intsOf xs = some ns → vs = ns.map V.int
  | [], vs, ns, r, h => by cases r; cases h; rfl
  | x :: xs, vs, ns, r, h => by
    cases r with
    | cons rx rr =>
      cases x with
      | int i =>
        unfold intsOf at h
        obtain ⟨ms, h1, rfl⟩ := Option.map_eq_some_iff.mp h
        cases rx
        rw [intsOf_rel rr h1]
        rfl
      | _ => cases h
theorem rel_ints {K : PySem.W.Frag} {ρ : Rho} {H : Hp} : ∀ (ns : List Int), RelPs K ρ H (ns.map PV.int) (ns.map V.int)
  | [] => .nil
  | n :: ns => .cons (.int n) (rel_ints ns)
def blsOf : List PV → Option (List Bool)
  | [] => some []
  | .bl i :: r => (blsOf r).map (i :: ·)
  | _ => none
theorem blsOf_rel {K : PySem.W.Frag} {ρ : Rho} {H : Hp} : ∀ {xs : List PV} {vs : List V} {ns : List Bool}, RelPs K ρ H xs vs → blsOf xs = some ns → vs = ns.map V.bl
  | [], vs, ns, r, h => by cases r; cases h; rfl
  | x :: xs, vs, ns, r, h => by
    cases r with
    | cons rx rr =>
      cases x with
      | bl i =>
        unfold blsOf at h
        obtain ⟨ms, h1, rfl⟩ := Option.map_eq_some_iff.mp h
        cases rx
        rw [blsOf_rel rr h1]
        rfl
      | _ => cases h
/-- a built-in over one list -/
def gL1 (f : List PV → Option PV) : PF := fun xs st => match xs with
  | [x] => match lstOf x st with
    | some ys => match f ys with
      | some v => some (v, st)
      | none => none
    | none => none
  | _ => none
theorem gL1_at {K : PySem.W.Frag} {ρ : Rho} {st : Sto} {H : Hp} {f : List PV → Option PV} {xs : List PV} {vs : List V} {v : PV} {st' : Sto} (S : Sim K cl ρ st H) (rs : RelPs K ρ H xs vs) (e : gL1 f xs st = some (v, st')) :
    st' = st ∧ ∃ a ws ys, vs = [.ref a] ∧ SqL K H a ws ∧ RelPs K ρ H ys ws ∧ f ys = some v := by
  unfold gL1 at e
  split at e
  · split at e
    · next ys ey =>
      split at e
      · next ef =>
        cases e
        cases rs with
        | cons rx rr =>
          cases rr
          obtain ⟨a, ws, rfl, h1, h2⟩ := lstOf_sql S rx ey
          exact ⟨rfl, a, ws, ys, rfl, h1, h2, ef⟩
      · cases e
    · cases e
  · cases e
def sumL (ys : List PV) : Option PV := (intsOf ys).map fun ns => .int ns.sum
def anyL (ys : List PV) : Option PV := (blsOf ys).map fun ns => .bl (ns.any _root_.id)
def allL (ys : List PV) : Option PV := (blsOf ys).map fun ns => .bl (ns.all _root_.id)
def maxI : List Int → Option Int
  | [] => none
  | i :: r => some (r.foldl max i)
def minI : List Int → Option Int
  | [] => none
  | i :: r => some (r.foldl min i)
def maxL (ys : List PV) : Option PV := ((intsOf ys).bind maxI).map .int
def minL (ys : List PV) : Option PV := ((intsOf ys).bind minI).map .int
theorem cr_sum' (hc : X.calm = true) : CallR X (.builtin "sum") (rG X.K cl (gL1 sumL)) := CR_imp (cr_sum hc) fun ρ st H xs vs v st' Q S rs e h => by
  obtain ⟨rfl, a, ws, ys, rfl, h1, h2, h3⟩ := gL1_at S rs e
  obtain ⟨ns, h4, rfl⟩ := Option.map_eq_some_iff.mp h3
  rw [intsOf_rel h2 h4] at h1
  exact ⟨a, ns, rfl, h1, Res.post.now S h _ (.int _)⟩
theorem cr_any' (hc : X.calm = true) : CallR X (.builtin "any") (rG X.K cl (gL1 anyL)) := CR_imp (cr_any hc) fun ρ st H xs vs v st' Q S rs e h => by
  obtain ⟨rfl, a, ws, ys, rfl, h1, h2, h3⟩ := gL1_at S rs e
  obtain ⟨ns, h4, rfl⟩ := Option.map_eq_some_iff.mp h3
  rw [blsOf_rel h2 h4] at h1
  exact ⟨a, ns, rfl, h1, Res.post.now S h _ (.bl _)⟩
theorem cr_all' (hc : X.calm = true) : CallR X (.builtin "all") (rG X.K cl (gL1 allL)) := CR_imp (cr_all hc) fun ρ st H xs vs v st' Q S rs e h => by
  obtain ⟨rfl, a, ws, ys, rfl, h1, h2, h3⟩ := gL1_at S rs e
  obtain ⟨ns, h4, rfl⟩ := Option.map_eq_some_iff.mp h3
  rw [blsOf_rel h2 h4] at h1
  exact ⟨a, ns, rfl, h1, Res.post.now S h _ (.bl _)⟩
theorem foldl_max : ∀ (r : List Int) (i : Int), r.foldl max i ∈ i :: r ∧ ∀ y ∈ i :: r, y ≤ r.foldl max i
  | [], i => ⟨List.mem_cons_self, fun y hy => by rw [List.mem_singleton] at hy; subst hy; exact Int.le_refl _⟩
  | j :: r, i => by
    obtain ⟨h1, h2⟩ := foldl_max r (max i j)
    refine ⟨?_, fun y hy => ?_⟩
    · rw [List.foldl_cons]
      rcases List.mem_cons.mp h1 with h | h
      · rw [h]
        rcases Int.le_total i j with hh | hh
        · rw [Int.max_eq_right hh]; exact List.mem_cons_of_mem _ List.mem_cons_self
        · rw [Int.max_eq_left hh]; exact List.mem_cons_self
      · exact List.mem_cons_of_mem _ (List.mem_cons_of_mem _ h)
    · rw [List.foldl_cons]
      have hm := h2 (max i j) List.mem_cons_self
      rcases List.mem_cons.mp hy with rfl | hy
      · omega
      · rcases List.mem_cons.mp hy with rfl | hy
        · omega
        · exact h2 y (List.mem_cons_of_mem _ hy)
theorem foldl_min : ∀ (r : List Int) (i : Int), r.foldl min i ∈ i :: r ∧ ∀ y ∈ i :: r, r.foldl min i ≤ y
  | [], i => ⟨List.mem_cons_self, fun y hy => by rw [List.mem_singleton] at hy; subst hy; exact Int.le_refl _⟩
  | j :: r, i => by
    obtain ⟨h1, h2⟩ := foldl_min r (min i j)
    refine ⟨?_, fun y hy => ?_⟩
    · rw [List.foldl_cons]
      rcases List.mem_cons.mp h1 with h | h
      · rw [h]
        rcases Int.le_total i j with hh | hh
        · rw [Int.min_eq_left hh]; exact List.mem_cons_self
        · rw [Int.min_eq_right hh]; exact List.mem_cons_of_mem _ List.mem_cons_self
      · exact List.mem_cons_of_mem _ (List.mem_cons_of_mem _ h)
    · rw [List.foldl_cons]
      have hm := h2 (min i j) List.mem_cons_self
      rcases List.mem_cons.mp hy with rfl | hy
      · omega
      · rcases List.mem_cons.mp hy with rfl | hy
        · omega
        · exact h2 y (List.mem_cons_of_mem _ hy)
theorem cr_maxL (hc : X.calm = true) : CallR X (.builtin "max") (rG X.K cl (gL1 maxL)) := CR_imp (cr_max hc) fun ρ st H xs vs v st' Q S rs e h => by
  obtain ⟨rfl, a, ws, ys, rfl, h1, h2, h3⟩ := gL1_at S rs e
  obtain ⟨m, h4, rfl⟩ := Option.map_eq_some_iff.mp h3
  obtain ⟨ns, h5, h6⟩ := Option.bind_eq_some_iff.mp h4
  rw [intsOf_rel h2 h5] at h1
  cases ns with
  | nil => cases h6
  | cons i r =>
    have h6 : r.foldl max i = m := Option.some.inj h6
    obtain ⟨k1, k2⟩ := foldl_max r i
    rw [h6] at k1 k2
    refine ⟨a, i :: r, rfl, h1, Nat.succ_pos _, fun m' hm hy => ?_⟩
    have e1 : m' = m := Int.le_antisymm (k2 m' hm) (hy m k1)
    rw [e1]
    exact Res.post.now S h _ (.int _)
theorem cr_minL (hc : X.calm = true) : CallR X (.builtin "min") (rG X.K cl (gL1 minL)) := CR_imp (cr_min hc) fun ρ st H xs vs v st' Q S rs e h => by
  obtain ⟨rfl, a, ws, ys, rfl, h1, h2, h3⟩ := gL1_at S rs e
  obtain ⟨m, h4, rfl⟩ := Option.map_eq_some_iff.mp h3
  obtain ⟨ns, h5, h6⟩ := Option.bind_eq_some_iff.mp h4
  rw [intsOf_rel h2 h5] at h1
  cases ns with
  | nil => cases h6
  | cons i r =>
    have h6 : r.foldl min i = m := Option.some.inj h6
    obtain ⟨k1, k2⟩ := foldl_min r i
    rw [h6] at k1 k2
    refine ⟨a, i :: r, rfl, h1, Nat.succ_pos _, fun m' hm hy => ?_⟩
    have e1 : m' = m := Int.le_antisymm (hy m k1) (k2 m' hm)
    rw [e1]
    exact Res.post.now S h _ (.int _)

/-- a new list out of what there is -/
def gNewL (f : List PV → Sto → Option (List PV)) : PF := fun xs st => match f xs st with
  | some ys => some (.ref st.nx, st.add (.lst ys))
  | none => none
def sortI (ns : List Int) : List Int := ns.mergeSort (fun a b => decide (a ≤ b))
theorem sortI_uniq {ns ms : List Int} (h1 : ms.Perm ns) (h2 : ms.Pairwise (· ≤ ·)) : ms = sortI ns := by
  have h3 : (sortI ns).Perm ns := List.mergeSort_perm ns _
  have h4 : (sortI ns).Pairwise (· ≤ ·) := by
    have := List.pairwise_mergeSort (le := fun a b : Int => decide (a ≤ b)) (fun a b c h1 h2 => by simp at h1 h2 ⊢; omega) (fun a b => by simp; omega) ns
    exact this.imp fun h => by simpa using h
  exact (h1.trans h3.symm).eq_of_pairwise (fun a b _ _ h1 h2 => Int.le_antisymm h1 h2) h2 h4
def srtL (xs : List PV) (st : Sto) : Option (List PV) := match xs with
  | [x] => ((lstOf x st).bind intsOf).map fun ns => (sortI ns).map .int
  | _ => none
def keysD (x : PV) (st : Sto) : Option (List (PV × PV)) := match x with
  | .ref n => match st.get n with
    | some (.dct kvs _) => if kvs.all (fun p => (keyK p.1).isSome) = true then some kvs else none
    | _ => none
  | _ => none
def srtD (xs : List PV) (st : Sto) : Option (List PV) := match xs with
  | [x] => ((keysD x st).bind fun kvs => if kvs.length < 64 then intsOf (kvs.map (·.1)) else none).map fun ns => (sortI ns).map .int
  | _ => none
theorem keysD_at {K : PySem.W.Frag} {ρ : Rho} {st : Sto} {H : Hp} {x : PV} {v : V} {kvs : List (PV × PV)} (S : Sim K cl ρ st H) (r : RelP K ρ H x v) (h : keysD x st = some kvs) : ∃ a ws, v = .ref a ∧ Rd H a (.dK ws) ∧ RelDk K ρ H kvs ws := by
  unfold keysD at h
  split at h
  · split at h
    · next eq =>
      split at h
      · next hk =>
        cases h
        cases r with
        | ref hr =>
          obtain ⟨ws, q, rr⟩ := rd_dk S hr eq hk
          exact ⟨_, ws, rfl, q, rr⟩
      · cases h
    · cases h
  · cases h
theorem gNewL_post {K : PySem.W.Frag} {ρ : Rho} {st st' : Sto} {H : Hp} {f : List PV → Sto → Option (List PV)} {xs ys : List PV} {vs : List V} {v : PV} {Q : VK} {p : Addr} (S : Sim K cl ρ st H) (e : gNewL f xs st = some (v, st')) (ef : f xs st = some ys) (h : (Res.ok v st').post K cl ρ H (Val K Q) NoE) (hp : H p = none) (r : RelPs K ρ H ys vs) :
    Q (.ref p) (upd H p (.lst vs)) := by
  unfold gNewL at e
  rw [ef] at e
  cases e
  exact new_lst S hp r h
theorem gNewL_some {f : List PV → Sto → Option (List PV)} {xs : List PV} {st st' : Sto} {v : PV} (e : gNewL f xs st = some (v, st')) : ∃ ys, f xs st = some ys := by
  unfold gNewL at e
  split at e
  · next ys h => exact ⟨ys, h⟩
  · cases e
theorem cr_srtL : CallR X (.builtin "sorted") (rG X.K cl (gNewL srtL)) := CR_imp cr_sortedI fun ρ st H xs vs v st' Q S rs e h => by
  obtain ⟨ys, ef⟩ := gNewL_some e
  have ef2 := ef
  unfold srtL at ef2
  split at ef2
  · obtain ⟨ns, h1, rfl⟩ := Option.map_eq_some_iff.mp ef2
    obtain ⟨zs, h2, h3⟩ := Option.bind_eq_some_iff.mp h1
    cases rs with
    | cons rx rr =>
      cases rr
      obtain ⟨a, ws, rfl, h4, h5⟩ := lstOf_sql S rx h2
      rw [intsOf_rel h5 h3] at h4
      refine ⟨a, ns, rfl, h4, fun ns' p hp hs hn => ?_⟩
      rw [sortI_uniq hp hs]
      exact gNewL_post S e ef h hn (rel_ints _)
  · cases ef2
theorem relDk_ints {K : PySem.W.Frag} {ρ : Rho} {H : Hp} {kvs : List (PV × PV)} {ws : List (Key × V)} (r : RelDk K ρ H kvs ws) : ∀ {ns : List Int}, intsOf (kvs.map (·.1)) = some ns → ws.map (·.1) = ns.map Sum.inl := by
  induction r with
  | nil => intro ns h; cases h; rfl
  | @cons x y k v xs vs hk h t ih =>
    intro ns e
    cases x with
    | int i =>
      have e : (intsOf (xs.map (·.1))).map (i :: ·) = some ns := e
      obtain ⟨ms, h1, rfl⟩ := Option.map_eq_some_iff.mp e
      cases hk
      rw [List.map_cons, ih h1]
      rfl
    | _ => cases e
theorem cr_srtD (hc : X.calm = true) : CallR X (.builtin "sorted") (rG X.K cl (gNewL srtD)) := CR_imp (call_sortedDI hc) fun ρ st H xs vs v st' Q S rs e h => by
  obtain ⟨ys, ef⟩ := gNewL_some e
  have ef2 := ef
  unfold srtD at ef2
  split at ef2
  · obtain ⟨ns, h1, rfl⟩ := Option.map_eq_some_iff.mp ef2
    obtain ⟨kvs, h2, h3⟩ := Option.bind_eq_some_iff.mp h1
    split at h3
    · next hl =>
      cases rs with
      | cons rx rr =>
        cases rr
        obtain ⟨a, ws, rfl, h4, h5⟩ := keysD_at S rx h2
        have hk := relDk_ints h5 h3
        refine ⟨a, ws, ns, rfl, h4, hk, ?_, fun ns' p hp hs hn => ?_⟩
        · have := congrArg List.length hk
          rw [List.length_map, List.length_map] at this
          rw [← this, ← h5.length]
          exact hl
        · rw [sortI_uniq hp hs]
          exact gNewL_post S e ef h hn (rel_ints _)
    · cases h3
  · cases ef2
/-- list(x): of a list, a tuple -/
def lisL (xs : List PV) (st : Sto) : Option (List PV) := match xs with
  | [.tup ys] => some ys
  | [.ktp ys] => some ys
  | [x] => lstOf x st
  | _ => none
theorem cr_lisL : CallR X (.type "list") (rG X.K cl (gNewL lisL)) := CR_imp call_list_of fun ρ st H xs vs v st' Q S rs e h => by
  obtain ⟨ys, ef⟩ := gNewL_some e
  have ef2 := ef
  unfold lisL at ef2
  split at ef2
  · cases ef2
    cases rs with
    | cons rx rr =>
      cases rr
      cases rx with
      | tup hq r => exact ⟨_, _, rfl, .inr (SqT.of hq), fun p hp => gNewL_post S e ef h hp r⟩
  · cases ef2
    cases rs with
    | cons rx rr =>
      cases rr
      cases rx with
      | ktp hq r => exact ⟨_, _, rfl, .inr hq.sq, fun p hp => gNewL_post S e ef h hp r⟩
  · cases rs with
    | cons rx rr =>
      cases rr
      obtain ⟨a, ws, rfl, h4, h5⟩ := lstOf_sql S rx ef2
      exact ⟨_, _, rfl, .inl h4, fun p hp => gNewL_post S e ef h hp h5⟩
  · cases ef2
/-- list(d) -/
def lisD (xs : List PV) (st : Sto) : Option (List PV) := match xs with
  | [x] => (keysD x st).map fun kvs => kvs.map (·.1)
  | _ => none
theorem relDk_keys {K : PySem.W.Frag} {ρ : Rho} {H : Hp} {kvs : List (PV × PV)} {ws : List (Key × V)} (r : RelDk K ρ H kvs ws) : RelPs K ρ H (kvs.map (·.1)) (ws.map fun kv => kV kv.1) := by
  induction r with
  | nil => exact .nil
  | @cons x y k v xs vs hk h t ih =>
    refine .cons ?_ ih
    cases x <;> simp [keyK] at hk <;> subst hk
    · exact .int _
    · exact .str _
theorem cr_lisD (hc : X.calm = true) : CallR X (.type "list") (rG X.K cl (gNewL lisD)) := CR_imp (call_listD hc) fun ρ st H xs vs v st' Q S rs e h => by
  obtain ⟨ys, ef⟩ := gNewL_some e
  have ef2 := ef
  unfold lisD at ef2
  split at ef2
  · obtain ⟨kvs, h2, rfl⟩ := Option.map_eq_some_iff.mp ef2
    cases rs with
    | cons rx rr =>
      cases rr
      obtain ⟨a, ws, rfl, h4, h5⟩ := keysD_at S rx h2
      exact ⟨a, ws, rfl, h4, fun p hp => gNewL_post S e ef h hp (relDk_keys h5)⟩
  · cases ef2
/-- list(d), the keys tuples -/
def lisT (xs : List PV) (st : Sto) : Option (List PV) := match xs with
  | [.ref n] => match st.get n with
    | some (.dct ((.tup k, v) :: kvs) _) => some (((PV.tup k, v) :: kvs).map (·.1))
    | _ => none
  | _ => none
theorem relDt_keys {K : PySem.W.Frag} {ρ : Rho} {H : Hp} {kvs : List (PV × PV)} {ws : List (List Key × V)} (r : RelDt K ρ H kvs ws) : ∀ {bs : List Addr}, IsKeys H ws bs → RelPs K ρ H (kvs.map (·.1)) (bs.map V.ref) := by
  induction r with
  | nil => intro bs h; cases h; exact .nil
  | @cons x y k v xs vs hk h t ih =>
    intro bs q
    cases q with
    | cons q1 q2 =>
      refine .cons ?_ (ih q2)
      cases x with
      | tup zs => exact .tup q1 (keysK_rel hk)
      | _ => cases hk
theorem cr_lisT (hc : X.calm = true) : CallR X (.type "list") (rG X.K cl (gNewL lisT)) := CR_imp (call_list_dT hc) fun ρ st H xs vs v st' Q S rs e h => by
  obtain ⟨ys, ef⟩ := gNewL_some e
  have ef2 := ef
  unfold lisT at ef2
  split at ef2
  · split at ef2
    · next eq =>
      cases ef2
      cases rs with
      | cons rx rr =>
        cases rr
        cases rx with
        | ref hr =>
          obtain ⟨u, rd, q⟩ := S.at_ hr eq
          rcases rd with ⟨ws, rfl, rd⟩ | ⟨ne, ws, rfl, rd⟩
          · cases rd with
            | cons hk _ _ => cases hk
          · refine ⟨_, ws, rfl, ?_, fun p bs hp hb => gNewL_post S e ef h hp (relDt_keys rd hb)⟩
            split at q
            · obtain ⟨z, q⟩ := q; exact .inr ⟨z, q⟩
            · exact .inl q
    · cases ef2
  · cases ef2
end
end MP
set_option Elab.async false
set_option linter.all false
set_option maxRecDepth 100000
set_option maxHeartbeats 2000000
namespace MP
open PySem PySem.Spec L2
def dgetP (kvs : List (PV × PV)) (y : PV) : Option PV := (kvs.find? fun p => decide (p.1 = y)).map (·.2)
def dputP (kvs : List (PV × PV)) (y v : PV) : List (PV × PV) := if (kvs.any fun p => decide (p.1 = y)) = true then kvs.map (fun p => if p.1 = y then (p.1, v) else p) else kvs ++ [(y, v)]
def ddelP (kvs : List (PV × PV)) (y : PV) : List (PV × PV) := kvs.filter fun p => decide (p.1 ≠ y)
/-- false: an int or a text; true: a tuple of such -/
def kindK (y : PV) : Option Bool := match y with
  | .int _ => some false
  | .str _ => some false
  | .tup zs => if (keysK zs).isSome = true then some true else none
  | _ => none
/-- the key's kind goes with the dict's -/
def kfit (kvs : List (PV × PV)) (lk : Bool) (y : PV) : Bool := match kindK y with
  | none => false
  | some b => match kvs with
    | [] => !b || !lk
    | (k, _) :: _ => decide (kindK k = some b)
theorem keyK_inj {x y : PV} {k : Key} (h : keyK x = some k) (h' : keyK y = some k) : x = y := by
  cases x <;> simp [keyK] at h <;> cases y <;> simp [keyK] at h' <;> subst h <;> simp at h' <;> simp [h']
theorem keysK_inj : ∀ {xs ys : List PV} {k : List Key}, keysK xs = some k → keysK ys = some k → xs = ys
  | [], ys, k, h, h' => by
    rw [keysK] at h
    cases h
    cases ys with
    | nil => rfl
    | cons y ys =>
      rw [keysK] at h'
      split at h' <;> cases h'
  | x :: xs, ys, k, h, h' => by
    rw [keysK] at h
    split at h
    · next a b e1 e2 =>
      cases h
      cases ys with
      | nil => rw [keysK] at h'; cases h'
      | cons y ys =>
        rw [keysK] at h'
        split at h'
        · next c d e3 e4 =>
          cases h'
          rw [keyK_inj e1 e3, keysK_inj e2 e4]
        · cases h'
    · cases h
theorem keyT_inj {x y : PV} {k : List Key} (h : keyT x = some k) (h' : keyT y = some k) : x = y := by
  cases x <;> simp only [keyT] at h <;> try (cases h)
  cases y <;> simp only [keyT] at h' <;> try (cases h')
  rw [keysK_inj h h']
def OR (K : PySem.W.Frag) (ρ : Rho) (H : Hp) : Option PV → Option V → Prop
  | none, none => True
  | some x, some v => RelP K ρ H x v
  | _, _ => False

section
variable {K : PySem.W.Frag} {ρ : Rho} {H : Hp} {kvs : List (PV × PV)} {ws : List (Key × V)} {y : PV} {k : Key}
theorem relDk_val (r : RelDk K ρ H kvs ws) (hk : keyK y = some k) : OR K ρ H (dgetP kvs y) (valV ws k) := by
  induction r with
  | nil => exact True.intro
  | @cons x z k' v xs vs hk' h t ih =>
    by_cases e : k' = k
    · subst e
      have e2 : x = y := keyK_inj hk' hk
      have e3 : dgetP ((x, z) :: xs) y = some z := by simp [dgetP, e2]
      rw [e3, valV_pos (show ((k', v) : Key × V).1 = k' from rfl)]
      exact h
    · have e2 : ¬ x = y := fun q => e (by rw [q, hk] at hk'; exact (Option.some.inj hk').symm)
      have e3 : dgetP ((x, z) :: xs) y = dgetP xs y := by simp [dgetP, e2]
      rw [e3, valV_neg (show ¬ ((k', v) : Key × V).1 = k from e)]
      exact ih
theorem relDk_any (r : RelDk K ρ H kvs ws) (hk : keyK y = some k) : (kvs.any fun p => decide (p.1 = y)) = ws.any fun p => decide (p.1 = k) := by
  induction r with
  | nil => rfl
  | @cons x z k' v xs vs hk' h t ih =>
    rw [List.any_cons, List.any_cons, ih]
    congr 1
    by_cases e : k' = k
    · subst e
      have e2 : x = y := keyK_inj hk' hk
      simp [e2]
    · have e2 : ¬ x = y := fun q => e (by rw [q, hk] at hk'; exact (Option.some.inj hk').symm)
      simp [e, e2]
theorem relDk_map {w : PV} {u : V} (r : RelDk K ρ H kvs ws) (hk : keyK y = some k) (rw' : RelP K ρ H w u) : RelDk K ρ H (kvs.map fun p => if p.1 = y then (p.1, w) else p) (ws.map fun p => if p.1 = k then (p.1, u) else p) := by
  induction r with
  | nil => exact .nil
  | @cons x z k' v xs vs hk' h t ih =>
    rw [List.map_cons, List.map_cons]
    by_cases e : k' = k
    · subst e
      have e2 : x = y := keyK_inj hk' hk
      rw [if_pos e2, if_pos (show ((k', v) : Key × V).1 = k' from rfl)]
      exact .cons hk' rw' ih
    · have e2 : ¬ x = y := fun q => e (by rw [q, hk] at hk'; exact (Option.some.inj hk').symm)
      rw [if_neg e2, if_neg (show ¬ ((k', v) : Key × V).1 = k from e)]
      exact .cons hk' h ih
theorem relDk_snoc {w : PV} {u : V} (r : RelDk K ρ H kvs ws) (hk : keyK y = some k) (rw' : RelP K ρ H w u) : RelDk K ρ H (kvs ++ [(y, w)]) (ws ++ [(k, u)]) := by
  induction r with
  | nil => exact .cons hk rw' .nil
  | cons hk' h _ ih => exact .cons hk' h ih
theorem relDk_put {w : PV} {u : V} (r : RelDk K ρ H kvs ws) (hk : keyK y = some k) (rw' : RelP K ρ H w u) : RelDk K ρ H (dputP kvs y w) (putK ws k u) := by
  unfold dputP putK
  rw [relDk_any r hk]
  split
  · exact relDk_map r hk rw'
  · exact relDk_snoc r hk rw'
theorem relDk_del (r : RelDk K ρ H kvs ws) (hk : keyK y = some k) : RelDk K ρ H (ddelP kvs y) (dropK ws k) := by
  induction r with
  | nil => exact .nil
  | @cons x z k' v xs vs hk' h t ih =>
    by_cases e : k' = k
    · subst e
      have e2 : x = y := keyK_inj hk' hk
      have z1 : ddelP ((x, z) :: xs) y = ddelP xs y := List.filter_cons_of_neg (by simp [e2])
      have z2 : dropK ((k', v) :: vs) k' = dropK vs k' := List.filter_cons_of_neg (by simp)
      rw [z1, z2]
      exact ih
    · have e2 : ¬ x = y := fun q => e (by rw [q, hk] at hk'; exact (Option.some.inj hk').symm)
      have z1 : ddelP ((x, z) :: xs) y = (x, z) :: ddelP xs y := List.filter_cons_of_pos (by simpa using e2)
      have z2 : dropK ((k', v) :: vs) k = (k', v) :: dropK vs k := List.filter_cons_of_pos (by simpa using e)
      rw [z1, z2]
      exact .cons hk' h ih
end

section
variable {K : PySem.W.Frag} {ρ : Rho} {H : Hp} {kvs : List (PV × PV)} {ws : List (List Key × V)} {y : PV} {k : List Key}
theorem relDt_val (r : RelDt K ρ H kvs ws) (hk : keyT y = some k) : OR K ρ H (dgetP kvs y) (valV ws k) := by
  induction r with
  | nil => exact True.intro
  | @cons x z k' v xs vs hk' h t ih =>
    by_cases e : k' = k
    · subst e
      have e2 : x = y := keyT_inj hk' hk
      have e3 : dgetP ((x, z) :: xs) y = some z := by simp [dgetP, e2]
      rw [e3, valV_pos (show ((k', v) : List Key × V).1 = k' from rfl)]
      exact h
    · have e2 : ¬ x = y := fun q => e (by rw [q, hk] at hk'; exact (Option.some.inj hk').symm)
      have e3 : dgetP ((x, z) :: xs) y = dgetP xs y := by simp [dgetP, e2]
      rw [e3, valV_neg (show ¬ ((k', v) : List Key × V).1 = k from e)]
      exact ih
theorem relDt_any (r : RelDt K ρ H kvs ws) (hk : keyT y = some k) : (kvs.any fun p => decide (p.1 = y)) = ws.any fun p => decide (p.1 = k) := by
  induction r with
  | nil => rfl
  | @cons x z k' v xs vs hk' h t ih =>
    rw [List.any_cons, List.any_cons, ih]
    congr 1
    by_cases e : k' = k
    · subst e
      have e2 : x = y := keyT_inj hk' hk
      simp [e2]
    · have e2 : ¬ x = y := fun q => e (by rw [q, hk] at hk'; exact (Option.some.inj hk').symm)
      simp [e, e2]
theorem relDt_map {w : PV} {u : V} (r : RelDt K ρ H kvs ws) (hk : keyT y = some k) (rw' : RelP K ρ H w u) : RelDt K ρ H (kvs.map fun p => if p.1 = y then (p.1, w) else p) (ws.map fun p => if p.1 = k then (p.1, u) else p) := by
  induction r with
  | nil => exact .nil
  | @cons x z k' v xs vs hk' h t ih =>
    rw [List.map_cons, List.map_cons]
    by_cases e : k' = k
    · subst e
      have e2 : x = y := keyT_inj hk' hk
      rw [if_pos e2, if_pos (show ((k', v) : List Key × V).1 = k' from rfl)]
      exact .cons hk' rw' ih
    · have e2 : ¬ x = y := fun q => e (by rw [q, hk] at hk'; exact (Option.some.inj hk').symm)
      rw [if_neg e2, if_neg (show ¬ ((k', v) : List Key × V).1 = k from e)]
      exact .cons hk' h ih
theorem relDt_snoc {w : PV} {u : V} (r : RelDt K ρ H kvs ws) (hk : keyT y = some k) (rw' : RelP K ρ H w u) : RelDt K ρ H (kvs ++ [(y, w)]) (ws ++ [(k, u)]) := by
  induction r with
  | nil => exact .cons hk rw' .nil
  | cons hk' h _ ih => exact .cons hk' h ih
theorem relDt_put {w : PV} {u : V} (r : RelDt K ρ H kvs ws) (hk : keyT y = some k) (rw' : RelP K ρ H w u) : RelDt K ρ H (dputP kvs y w) (putK ws k u) := by
  unfold dputP putK
  rw [relDt_any r hk]
  split
  · exact relDt_map r hk rw'
  · exact relDt_snoc r hk rw'
theorem relDt_del (r : RelDt K ρ H kvs ws) (hk : keyT y = some k) : RelDt K ρ H (ddelP kvs y) (dropK ws k) := by
  induction r with
  | nil => exact .nil
  | @cons x z k' v xs vs hk' h t ih =>
    by_cases e : k' = k
    · subst e
      have e2 : x = y := keyT_inj hk' hk
      have z1 : ddelP ((x, z) :: xs) y = ddelP xs y := List.filter_cons_of_neg (by simp [e2])
      have z2 : dropK ((k', v) :: vs) k' = dropK vs k' := List.filter_cons_of_neg (by simp)
      rw [z1, z2]
      exact ih
    · have e2 : ¬ x = y := fun q => e (by rw [q, hk] at hk'; exact (Option.some.inj hk').symm)
      have z1 : ddelP ((x, z) :: xs) y = (x, z) :: ddelP xs y := List.filter_cons_of_pos (by simpa using e2)
      have z2 : dropK ((k', v) :: vs) k = (k', v) :: dropK vs k := List.filter_cons_of_pos (by simpa using e)
      rw [z1, z2]
      exact .cons hk' h ih
end

section
variable {X : Cx} {pins : List (Addr × Obj)} {σ : L2.St} {H : Hp} {s : Shared} {d : Addr}
/-- an empty dict may take keys of the other kind -/
theorem relabT (I : Inv X pins σ H s) (h : H d = some (.dK [])) : Inv X pins σ (upd H d (.dT [])) s := by
  obtain ⟨z, hd, vs, rel, o, es, ep, ho, hx, hdat, _, hp, _⟩ := I.hok d _ h
  cases rel
  have e0 : es.toList = [] := by
    generalize es.toList = l at hp
    cases hp
    rfl
  exact I.write (x := d) (e := d) (t' := s.toks) (h' := s.heap) (by rw [h]; trivial) (.inl rfl) (fun b v _ q => q) ⟨o, ho⟩ ⟨Nat.zero_le _, hd, [], .nil, o, es, ep, ho, hx, hdat, e0, List.nodup_nil⟩
theorem relabK (I : Inv X pins σ H s) (h : H d = some (.dT [])) : Inv X pins σ (upd H d (.dK [])) s := by
  obtain ⟨z, hd, xs, rel, o, es, ep, ho, hx, hdat, hes, _⟩ := I.hok d _ h
  cases rel
  have e0 : es.toList = [] := hes
  refine I.write (x := d) (e := d) (t' := s.toks) (h' := s.heap) (by rw [h]; trivial) (.inl rfl) (fun b v _ q => q) ⟨o, ho⟩ ⟨Nat.zero_le _, hd, [], .nil, o, es, ep, ho, hx, hdat, fun e he => ?_, by rw [e0]; exact .nil, List.nodup_nil⟩
  have he : e ∈ es.toList := by simpa using he
  rw [e0] at he
  cases he
theorem upd_back {o : HO} (h : H d = some o) (u : HO) : upd (upd H d u) d o = H := by
  funext b
  by_cases e : b = d
  · rw [e, upd_same, h]
  · rw [upd_ne e, upd_ne e]
end
/-- what a key is in the heap -/
theorem kindK_f {y : PV} (h : kindK y = some false) : ∃ k, keyK y = some k := by
  cases y with
  | tup zs =>
    have h : (if (keysK zs).isSome = true then some true else none) = some false := h
    by_cases c : (keysK zs).isSome = true
    · rw [if_pos c] at h; exact nomatch (Option.some.inj h)
    · rw [if_neg c] at h; exact nomatch h
  | int i => exact ⟨_, rfl⟩
  | str i => exact ⟨_, rfl⟩
  | _ => cases h
theorem kindK_t {y : PV} (h : kindK y = some true) : ∃ zs ks, y = .tup zs ∧ keysK zs = some ks := by
  cases y with
  | tup zs =>
    have h : (if (keysK zs).isSome = true then some true else none) = some true := h
    by_cases c : (keysK zs).isSome = true
    · obtain ⟨ks, e⟩ := Option.isSome_iff_exists.mp c
      exact ⟨zs, ks, rfl, e⟩
    · rw [if_neg c] at h; exact nomatch h
  | _ => cases h
theorem keyK_val {K : PySem.W.Frag} {ρ : Rho} {H : Hp} {y : PV} {v : V} {k : Key} (h : keyK y = some k) (r : RelP K ρ H y v) : v = kV k := by
  cases y <;> simp only [keyK] at h <;> cases h <;> cases r <;> rfl
theorem keysK_vals {K : PySem.W.Frag} {ρ : Rho} {H : Hp} : ∀ {zs : List PV} {vs : List V} {ks : List Key}, keysK zs = some ks → RelPs K ρ H zs vs → vs = ks.map kV
  | [], vs, ks, h, r => by rw [keysK] at h; cases h; cases r; rfl
  | x :: xs, vs, ks, h, r => by
    rw [keysK] at h
    split at h
    · next a b e1 e2 =>
      cases h
      cases r with
      | cons r1 r2 => rw [keyK_val e1 r1, keysK_vals e2 r2]; rfl
    · cases h
theorem kfit_k {kvs : List (PV × PV)} {lk : Bool} {y : PV} (h : kfit kvs lk y = true) : (kindK y = some false ∧ ∀ p r, kvs = p :: r → kindK p.1 = some false) ∨ (kindK y = some true ∧ (kvs = [] → lk = false) ∧ ∀ p r, kvs = p :: r → kindK p.1 = some true) := by
  unfold kfit at h
  split at h
  · cases h
  · next b e =>
    cases b with
    | false =>
      refine .inl ⟨e, fun p r ek => ?_⟩
      subst ek
      obtain ⟨a, c⟩ := p
      exact of_decide_eq_true h
    | true =>
      refine .inr ⟨e, fun ek => ?_, fun p r ek => ?_⟩
      · subst ek
        simpa using h
      · subst ek
        obtain ⟨a, c⟩ := p
        exact of_decide_eq_true h
section
variable {K : PySem.W.Frag} {cl : CT} {ρ : Rho} {st : Sto} {H : Hp} {n : Nat} {a : Addr} {kvs : List (PV × PV)} {lk : Bool} {y : PV}
/-- plain keys: the heap's dict -/
theorem fit_k {u : HO} (r : RelD K ρ H kvs u) (h : ∀ p r, kvs = p :: r → kindK p.1 = some false) : ∃ ws, u = .dK ws ∧ RelDk K ρ H kvs ws := by
  rcases r with r | ⟨ne, ws, rfl, r⟩
  · exact r
  · cases r with
    | nil => exact absurd rfl ne
    | @cons x y k v xs vs hk hh t =>
      obtain ⟨k2, q⟩ := kindK_f (h _ _ rfl)
      cases x <;> first | (simp [keyK] at q; done) | (simp [keyT] at hk; done)
theorem fit_t {u : HO} (r : RelD K ρ H kvs u) (ne : kvs ≠ []) (h : ∀ p r, kvs = p :: r → kindK p.1 = some true) : ∃ ws, u = .dT ws ∧ RelDt K ρ H kvs ws := by
  rcases r with ⟨ws, rfl, r⟩ | ⟨_, ws, rfl, r⟩
  · cases r with
    | nil => exact absurd rfl ne
    | @cons x y k v xs vs hk hh t =>
      obtain ⟨zs, ks, q, _⟩ := kindK_t (h _ _ rfl)
      have q : x = .tup zs := q
      subst q
      exact nomatch hk
  · exact ⟨ws, rfl, r⟩
theorem rd_lk {u : HO} (q : if lk = true then ∃ o, H a = some (.frz o u) else H a = some u) : Rd H a u := by
  split at q
  · obtain ⟨z, q⟩ := q; exact .inr ⟨z, q⟩
  · exact .inl q
end
section
variable {X : Cx} {cl : CT} {pins : List (Addr × Obj)} {σ : L2.St} {H : Hp} {s : Shared} {ρ : Rho} {st : Sto} {n : Nat} {a : Addr} {kvs : List (PV × PV)} {lk : Bool} {y : PV} {v : V}
/-- a dict read at a key -/
theorem dget_with (I : Inv X pins σ H s) (S : Sim X.K cl ρ st H) (hr : ρ n = some a) (e : st.get n = some (.dct kvs lk)) (ry : RelP X.K ρ H y v) (hk : kfit kvs lk y = true) {C : Prop}
    (k : ∀ H' o, Inv X pins σ H' s → DGet H' a v o → OR X.K ρ H (dgetP kvs y) o → (∀ s', Inv X pins σ H' s' → Inv X pins σ H s') → C) : C := by
  obtain ⟨u, rd, q⟩ := S.at_ hr e
  rcases kfit_k hk with ⟨ky, kk⟩ | ⟨ky, k0, kk⟩
  · obtain ⟨ws, rfl, r⟩ := fit_k rd kk
    obtain ⟨kx, ek⟩ := kindK_f ky
    exact k H _ I (.inl ⟨ws, kx, rd_lk q, keyK_val ek ry, rfl⟩) (relDk_val r ek) fun _ z => z
  · obtain ⟨zs, ks, rfl, ek⟩ := kindK_t ky
    cases ry with
    | @tup _ b vs hb rr =>
      have evs := keysK_vals ek rr
      subst evs
      by_cases ne : kvs = []
      · have el := k0 ne
        subst ne el
        rw [if_neg Bool.false_ne_true] at q
        rcases rd with ⟨ws, rfl, r⟩ | ⟨nn, _⟩
        · cases r
          have hab : b ≠ a := fun z => by rw [z, q] at hb; cases hb
          refine k (upd H a (.dT [])) none (relabT I q) (.inr ⟨[], ks, b, .inl upd_same, rfl, by rw [upd_ne hab]; exact hb, rfl⟩) True.intro fun s' I' => ?_
          have := relabK I' upd_same
          rw [upd_back q] at this
          exact this
        · exact absurd rfl nn
      · obtain ⟨ws, rfl, r⟩ := fit_t rd ne kk
        exact k H _ I (.inr ⟨ws, ks, b, rd_lk q, rfl, hb, rfl⟩) (relDt_val r (show keyT (.tup zs) = some ks from ek)) fun _ z => z
/-- a dict written at a key -/
theorem dput_with {x : PV} {w : V} (I : Inv X pins σ H s) (S : Sim X.K cl ρ st H) (hr : ρ n = some a) (e : st.get n = some (.dct kvs false)) (ry : RelP X.K ρ H y v) (rx : RelP X.K ρ H x w) (hk : kfit kvs false y = true) (hl : kvs.length < sizeLine) {C : Prop}
    (k : ∀ H1 H2, Inv X pins σ H1 s → DPut H1 a v w H2 → Ext X.K H H2 → Sim X.K cl ρ (st.set n (.dct (dputP kvs y x) false)) H2 → C) : C := by
  obtain ⟨u, rd, q⟩ := S.at_ hr e
  rw [if_neg Bool.false_ne_true] at q
  rcases kfit_k hk with ⟨ky, kk⟩ | ⟨ky, k0, kk⟩
  · obtain ⟨ws, rfl, r⟩ := fit_k rd kk
    obtain ⟨kx, ek⟩ := kindK_f ky
    have hv := keyK_val ek ry
    subst hv
    have ex : Ext X.K H (upd H a (.dK (putK ws kx w))) := Ext.write q trivial
    refine k H _ I (DPut.k q (by rw [← r.length]; exact hl)) ex (S.write hr q trivial ⟨_, .inl ⟨_, rfl, relDk_put (r.mono (Le.refl _) ex) ek (rx.mono (Le.refl _) ex)⟩, ?_⟩)
    rw [if_neg Bool.false_ne_true]; exact upd_same
  · obtain ⟨zs, ks, rfl, ek⟩ := kindK_t ky
    cases ry with
    | @tup _ b vs hb rr =>
      have evs := keysK_vals ek rr
      subst evs
      have hab : b ≠ a := fun z => by
        rw [z, q] at hb
        cases hb
        exact (soft_of rd : False)
      by_cases ne : kvs = []
      · subst ne
        rcases rd with ⟨ws, rfl, r⟩ | ⟨nn, _⟩
        · cases r
          have I1 := relabT I q
          have e1 : upd (upd H a (.dT [])) a (.dT [(ks, w)]) = upd H a (.dT [(ks, w)]) := by
            funext c
            by_cases z : c = a
            · rw [z, upd_same, upd_same]
            · rw [upd_ne z, upd_ne z, upd_ne z]
          have ex : Ext X.K H (upd H a (.dT [(ks, w)])) := Ext.write q trivial
          refine k _ (upd H a (.dT [(ks, w)])) I1 (.inr ⟨[], ks, b, upd_same, rfl, by rw [upd_ne hab]; exact hb, hl, e1.symm⟩) ex (S.write hr q trivial ⟨_, .inr ⟨(fun z => nomatch z), [(ks, w)], rfl, RelDt.cons (k := ks) ek (rx.mono (Le.refl _) ex) .nil⟩, ?_⟩)
          rw [if_neg Bool.false_ne_true]; exact upd_same
        · exact absurd rfl nn
      · obtain ⟨ws, rfl, r⟩ := fit_t rd ne kk
        have ex : Ext X.K H (upd H a (.dT (putK ws ks w))) := Ext.write q trivial
        refine k H _ I (DPut.t q hb (by rw [← r.length]; exact hl)) ex (S.write hr q trivial ⟨_, .inr ⟨fun z => ?_, _, rfl, relDt_put (r.mono (Le.refl _) ex) (show keyT (.tup zs) = some ks from ek) (rx.mono (Le.refl _) ex)⟩, ?_⟩)
        · unfold dputP at z
          split at z
          · exact ne (List.map_eq_nil_iff.mp z)
          · exact absurd z (by simp)
        · rw [if_neg Bool.false_ne_true]; exact upd_same
end
end MP
set_option Elab.async false
set_option linter.all false
set_option maxRecDepth 100000
set_option maxHeartbeats 2000000
namespace MP
open PySem PySem.Spec L2
def ixP (x y : PV) (st : Sto) : Option PV := match x with
  | .tup xs => match y with
    | .int i => atI xs i
    | _ => none
  | .ktp xs => match y with
    | .int i => atI xs i
    | _ => none
  | .rls xs => match y with
    | .int i => atI xs i
    | _ => none
  | .str z => match y with
    | .int i => if sz z.length = true then (atI z.cps.toList i).map fun c => .str ⟨#[c]⟩ else none
    | _ => none
  | .ref n => match st.get n with
    | some (.lst xs) => match y with
      | .int i => atI xs i
      | _ => none
    | some (.dct kvs lk) => if kfit kvs lk y = true then dgetP kvs y else none
    | _ => none
  | _ => none
def mIx (fa fb : ME) : ME := fun σ st => (fa σ st).bind fun x st1 => (fb σ st1).bind fun y st2 => match ixP x y st2 with
  | some v => .ok v st2
  | none => .stuck
theorem atI_rel {K : PySem.W.Frag} {ρ : Rho} {H : Hp} {xs : List PV} {vs : List V} {i : Int} {x : PV} (r : RelPs K ρ H xs vs) (h : atI xs i = some x) : ∃ v, atI vs i = some v ∧ RelP K ρ H x v := by
  unfold atI at h ⊢
  rw [← r.length]
  obtain ⟨j, h1, h2⟩ := Option.bind_eq_some_iff.mp h
  rw [h1]
  exact r.get h2
section
variable {X : Cx} {cl : CT} {W : WX} {a b c e : Expr} {fa fb fc fe : ME} {pos p2 : Pos}
def rX (K : PySem.W.Frag) (cl : CT) : R2 := fun x y H Q => ∃ ρ st p q v, Sim K cl ρ st H ∧ RelP K ρ H p x ∧ RelP K ρ H q y ∧ ixP p q st = some v ∧ ∀ w, RelP K ρ H v w → Q w H
theorem ix_mp (hu : X.A.units + 1 < cLine) : IxR X (rX X.K cl) := by
  intro value slice pins s σ H x y v u Q I rx ry ⟨ρ, st, p, q, z, S, rp, rq, e, k⟩ hs
  have seq : ∀ {a : Addr} {vs : List V} {xs : List PV} {i : Int}, x = .ref a → (SqL X.K H a vs ∨ SqT X.K H a vs) → RelPs X.K ρ H xs vs → y = .int i → atI xs i = some z → wpAny (model X.prog X.w) X.A (PyProof.Rows.subscriptTail value slice v u) (EP X pins σ Q) X.xe s := fun {a vs xs i} ex hq rr ey h => by
    obtain ⟨w, h1, h2⟩ := atI_rel rr h
    rcases hq with hq | hq
    · exact ix_seq value slice pins s σ H x y v u Q I rx ry (.inl ⟨a, vs, i, w, ex, ey, hq, h1, k w h2⟩) hs
    · exact ix_seq value slice pins s σ H x y v u Q I rx ry (.inr (.inl ⟨a, vs, i, w, ex, ey, hq, h1, k w h2⟩)) hs
  unfold ixP at e
  split at e
  · split at e
    · cases rq
      cases rp with
      | tup hq rr => exact seq rfl (.inr (SqT.of hq)) rr rfl e
    · cases e
  · split at e
    · cases rq
      cases rp with
      | ktp hq rr => exact seq rfl (.inr hq.sq) rr rfl e
    · cases e
  · split at e
    · cases rq
      cases rp with
      | rls hq rr => exact seq rfl (.inl hq.sql) rr rfl e
    · cases e
  · split at e
    · split at e
      · next hz =>
        obtain ⟨c, h1, rfl⟩ := Option.map_eq_some_iff.mp e
        cases rq
        cases rp
        exact ix_seq value slice pins s σ H _ _ v u Q I rx ry (.inr (.inr ⟨_, _, c, rfl, rfl, sz_ok hz, h1, k _ (.str _)⟩)) hs
      · cases e
    · cases e
  · split at e
    · next eq =>
      split at e
      · cases rq
        cases rp with
        | ref hr =>
          obtain ⟨vs, hq, rr⟩ := S.at_ hr eq
          exact seq rfl (.inl (SqL.of hq)) rr rfl e
      · cases e
    · next kvs lk eq =>
      split at e
      · next hk =>
        cases rp with
        | @ref _ a hr =>
          obtain rfl : v = Value.ref a := rx
          refine dget_with I S hr eq rq hk fun H' o I' g or bk => ?_
          rw [e] at or
          cases o with
          | none => exact or.elim
          | some w =>
            exact PyProof.Rows.tail_any (dict_typeIs I' g) PySem.F.slot_dict_getitem.lookup (d_getItem hu I' g ry fun w' s' I2 rw' => ⟨w, H, bk s' I2, rw', k w or⟩) hs
      · cases e
    · cases e
  · cases e
theorem me_ix (hu : X.A.units + 1 < cLine) (ha : PE X a (tM X.K cl W fa)) (hb : PE X b (tM X.K cl W fb)) (hs : PlainIx b := by exact fun _ _ => rfl) : PE X (.Subscript a b pos) (tM X.K cl W (mIx fa fb)) :=
  (pe_ix (ix_mp (cl := cl) hu) ha hb hs).imp fun σ H Q ⟨ρ, st, σp, S, rs, h⟩ => by
    refine ⟨ρ, st, σp, S, rs, Res.post.imp (Res.post.bind h) (fun x st1 ρ1 H1 l1 e1 S1 h1 v rv => ?_) fun _ _ _ z => z⟩
    refine ⟨ρ1, st1, σp, S1, rs.mono l1 e1, Res.post.imp (Res.post.bind h1) (fun y st2 ρ2 H2 l2 e2 S2 h2 w rw' => ?_) fun _ _ _ z => z⟩
    split at h2
    · next z ez => exact ⟨ρ2, st2, x, y, z, S2, rv.mono l2 e2, rw', ez, fun w' r' => Res.post.now S2 h2 w' r'⟩
    · exact h2.elim

def cutP (xs : List PV) (lo hi : Option Int) : List PV := (xs.drop (HT.sIx xs.length 0 lo)).take (HT.sIx xs.length xs.length hi - HT.sIx xs.length 0 lo)
theorem cut_rel {K : PySem.W.Frag} {ρ : Rho} {H : Hp} {xs : List PV} {vs : List V} (r : RelPs K ρ H xs vs) (lo hi : Option Int) : RelPs K ρ H (cutP xs lo hi) (cutV vs lo hi) := by
  unfold cutP cutV
  rw [r.length]
  exact (r.drop _).take _
def slP (x : PV) (lo hi : Option Int) (st : Sto) : Res PV := match x with
  | .tup xs => if HT.sIx xs.length 0 lo = 0 ∧ HT.sIx xs.length xs.length hi = xs.length then .ok x st else .ok (.tup (cutP xs lo hi)) st
  | .ktp xs => if HT.sIx xs.length 0 lo = 0 ∧ HT.sIx xs.length xs.length hi = xs.length then .ok x st else .ok (.tup (cutP xs lo hi)) st
  | .rls xs => mkNew (.lst (cutP xs lo hi)) st
  | .ref n => match st.get n with
    | some (.lst xs) => mkNew (.lst (cutP xs lo hi)) st
    | _ => .stuck
  | .str z => if sz z.length = true then .ok (.str (cutS z lo hi)) st else .stuck
  | _ => .stuck
abbrev MO := Sl → Sto → Res (Option Int)
def moNone : MO := fun _ st => .ok none st
def moSome (f : ME) : MO := fun σ st => (f σ st).bind fun x st1 => match x with
  | .int i => .ok (some i) st1
  | _ => .stuck
def tMO (K : PySem.W.Frag) (cl : CT) (W : WX) (f : MO) : TO := fun σ H Q => ∃ ρ st σp, Sim K cl ρ st H ∧ RelS K ρ H σp σ ∧ (f σp st).post K cl ρ H (fun o _ _ H' => Q o H') fun C d H' => W C d σ H'
theorem _root_.L2.PO.imp {X : Cx} {e : Option Expr} {t t' : TO} (h : L2.PO X e t) (i : ∀ σ H Q, t' σ H Q → t σ H Q) : L2.PO X e t' := ⟨fun pins s σ H Q I q => h.run pins s σ H Q I (i σ H Q q)⟩
theorem mo_none : L2.PO X none (tMO X.K cl W moNone) := po_none.imp fun σ H Q ⟨ρ, st, σp, S, rs, h⟩ => Res.post.now S h
theorem mo_some (he : PE X e (tM X.K cl W fe)) : L2.PO X (some e) (tMO X.K cl W (moSome fe)) := (po_some he).imp fun σ H Q ⟨ρ, st, σp, S, rs, h⟩ =>
  ⟨ρ, st, σp, S, rs, Res.post.imp (Res.post.bind h) (fun x st1 ρ1 H1 l1 e1 S1 h1 v rv => by
    split at h1
    · cases rv; exact ⟨_, rfl, Res.post.now S1 h1⟩
    · exact h1.elim) fun _ _ _ z => z⟩
def mSl (fe : ME) (lo hi : MO) : ME := fun σ st => (fe σ st).bind fun x st1 => (lo σ st1).bind fun l st2 => (hi σ st2).bind fun u st3 => slP x l u st3
def rSl (K : PySem.W.Frag) : V → Option Int → Option Int → Hp → VK → Prop := fun x lo hi H Q => rSlL K x lo hi H Q ∨ rSlA K x lo hi H Q ∨ rSlS x lo hi H Q
theorem me_slice {lo hi : Option Expr} {fl fh : MO} (he : PE X e (tM X.K cl W fe)) (hl : L2.PO X lo (tMO X.K cl W fl)) (hh : L2.PO X hi (tMO X.K cl W fh)) : PE X (.Subscript e (.Slice lo hi none p2) pos) (tM X.K cl W (mSl fe fl fh)) :=
  (pe_slice (r := rSl X.K) (sl_list.or (sl_tupA.or sl_str)) he hl hh).imp fun σ H Q ⟨ρ, st, σp, S, rs, h⟩ => by
    refine ⟨ρ, st, σp, S, rs, Res.post.imp (Res.post.bind h) (fun x st1 ρ1 H1 l1 e1 S1 h1 v rv => ?_) fun _ _ _ z => z⟩
    refine ⟨ρ1, st1, σp, S1, rs.mono l1 e1, Res.post.imp (Res.post.bind h1) (fun l st2 ρ2 H2 l2 e2 S2 h2 => ?_) fun _ _ _ z => z⟩
    refine ⟨ρ2, st2, σp, S2, (rs.mono l1 e1).mono l2 e2, Res.post.imp (Res.post.bind h2) (fun u st3 ρ3 H3 l3 e3 S3 h3 => ?_) fun _ _ _ z => z⟩
    have rv := (rv.mono l2 e2).mono l3 e3
    have tp : ∀ {xs : List PV} {ws : List V} {a : Addr}, v = .ref a → SqT X.K H3 a ws → RelPs X.K ρ3 H3 xs ws → (if HT.sIx xs.length 0 l = 0 ∧ HT.sIx xs.length xs.length u = xs.length then Res.ok x st3 else .ok (.tup (cutP xs l u)) st3).post X.K cl ρ3 H3 (Val X.K Q) (fun C d H' => W C d σ H') → rSlA X.K v l u H3 Q := fun {xs ws a} ev hq rr h => by
      rw [rr.length] at h
      refine ⟨a, ws, ev, hq, fun z => ?_, fun z p hp => ?_⟩
      · rw [if_pos z] at h
        rw [← ev]
        exact Res.post.now S3 h _ rv
      · rw [if_neg z] at h
        exact new_tup S3 hp (cut_rel rr l u) (post_calm (E' := NoE) (fun _ _ q => nomatch q) h)
    unfold slP at h3
    split at h3
    · cases rv with
      | tup hq rr => exact .inr (.inl (tp rfl (SqT.of hq) rr h3))
    · cases rv with
      | ktp hq rr => exact .inr (.inl (tp rfl hq.sq rr h3))
    · cases rv with
      | rls hq rr => exact .inl ⟨_, _, rfl, hq.sql, fun p hp => new_lst S3 hp (cut_rel rr l u) h3⟩
    · split at h3
      · next eq =>
        cases rv with
        | ref hr =>
          obtain ⟨vs, hq, rr⟩ := S3.at_ hr eq
          exact .inl ⟨_, _, rfl, SqL.of hq, fun p hp => new_lst S3 hp (cut_rel rr l u) h3⟩
      · exact h3.elim
    · split at h3
      · next hz =>
        cases rv
        exact .inr (.inr ⟨_, rfl, sz_ok hz, Res.post.now S3 h3 _ (.str _)⟩)
      · exact h3.elim
    · exact h3.elim

def anyEq (f : PV → Option Bool) : List PV → Option Bool
  | [] => some false
  | x :: r => match f x, anyEq f r with
    | some a, some b => some (a || b)
    | _, _ => none
theorem anyEq_all {f : PV → Option Bool} : ∀ {xs : List PV} {c : Bool}, anyEq f xs = some c → ∀ x ∈ xs, ∃ b, f x = some b
  | x :: r, c, h, y, hy => by
    rw [anyEq] at h
    split at h
    · next a b e1 e2 =>
      rcases List.mem_cons.mp hy with rfl | hy
      · exact ⟨a, e1⟩
      · exact anyEq_all e2 y hy
    · cases h
theorem anyEq_some {f : PV → Option Bool} : ∀ {xs : List PV} {c : Bool}, anyEq f xs = some c → (c = true ↔ ∃ x ∈ xs, f x = some true)
  | [], c, h => by
    rw [anyEq] at h
    cases h
    simp
  | x :: r, c, h => by
    rw [anyEq] at h
    split at h
    · next a b e1 e2 =>
      cases h
      have ih := anyEq_some e2
      rw [Bool.or_eq_true, ih]
      constructor
      · rintro (h | ⟨y, h1, h2⟩)
        · exact ⟨x, List.mem_cons_self, by rw [e1, h]⟩
        · exact ⟨y, List.mem_cons_of_mem _ h1, h2⟩
      · rintro ⟨y, h1, h2⟩
        rcases List.mem_cons.mp h1 with rfl | h1
        · rw [e1] at h2; exact .inl (Option.some.inj h2)
        · exact .inr ⟨y, h1, h2⟩
    · cases h
/-- x in y -/
def inP (x y : PV) (st : Sto) : Option Bool := match y with
  | .str z => match x with
    | .str w => some (!(Builtin.Str.occurrences z w 0 z.length 1).isEmpty)
    | _ => none
  | .ref n => match st.get n with
    | some (.dct kvs lk) => if kfit kvs lk x = true then some (dgetP kvs x).isSome else none
    | some (.lst xs) => anyEq (fun z => eqP st 60 z x) xs
    | _ => none
  | .tup xs => anyEq (fun z => eqP st 60 z x) xs
  | .ktp xs => anyEq (fun z => eqP st 60 z x) xs
  | .rls xs => anyEq (fun z => eqP st 60 z x) xs
  | _ => none
def oIn (neg : Bool) : PV → PV → Sto → Res PV := fun x y st => match inP x y st with
  | some b => .ok (.bl (if neg then !b else b)) st
  | none => .stuck
theorem calm_in {neg : Bool} : Calm2 (oIn neg) := fun x y st e s' h => by unfold oIn at h; split at h <;> cases h
/-- the items' answers as a function of the machine's values -/
theorem items_in {pins : List (Addr × Obj)} {σ : L2.St} {H : Hp} {s : Shared} {ρ : Rho} {st : Sto} {x : PV} {v : V} {vu : Value} {xs : List PV} {vs : List V} {its : List Value} {b : Bool}
    (hu : X.A.units + 64 < cLine) (I : Inv X pins σ H s) (S : Sim X.K cl ρ st H) (rx : RelP X.K ρ H x v) (rv : RelV v vu) (rr : RelPs X.K ρ H xs vs) (ru : Vals vs its) (h : anyEq (fun z => eqP st 60 z x) xs = some b) :
    ∃ f : Value → Bool, (∀ y, y ∈ its.toArray → SeqAt.EqAt X.A.in1 s y vu (f y)) ∧ its.toArray.any f = b := by
  classical
  refine ⟨fun u => decide (∃ z w, z ∈ xs ∧ RelP X.K ρ H z w ∧ RelV w u ∧ eqP st 60 z x = some true), fun u hu' => ?_, ?_⟩
  · have hu2 : u ∈ its := by simpa using hu'
    obtain ⟨j, hj⟩ := List.mem_iff_getElem?.mp hu2
    have hjl := (List.getElem?_eq_some_iff.mp hj).1
    have l1 := ru.length
    have l2 := rr.length
    obtain ⟨z, hz⟩ : ∃ z, xs[j]? = some z := ⟨xs[j]'(by omega), List.getElem?_eq_getElem (by omega)⟩
    obtain ⟨w, hw, rz⟩ := rr.get hz
    obtain ⟨u', hu3, rw'⟩ := ru.get hw
    rw [hj] at hu3
    cases hu3
    obtain ⟨c, hc⟩ := anyEq_all h z (List.mem_of_getElem? hz)
    have E := eqP_at I S 60 (A := X.A.in1) (by show X.A.units + 1 + 60 < cLine; omega) rz rx rw' rv hc
    cases c with
    | true =>
      have : decide (∃ z w, z ∈ xs ∧ RelP X.K ρ H z w ∧ RelV w u ∧ eqP st 60 z x = some true) = true := decide_eq_true ⟨z, w, List.mem_of_getElem? hz, rz, rw', hc⟩
      show SeqAt.EqAt _ _ _ _ (decide _)
      rw [this]
      exact E
    | false =>
      have : decide (∃ z w, z ∈ xs ∧ RelP X.K ρ H z w ∧ RelV w u ∧ eqP st 60 z x = some true) = false := decide_eq_false fun ⟨z2, w2, h1, h2, h3, h4⟩ => by
        have e1 : w2 = w := h3.inj rw'
        subst e1
        have e2 := RelP.inj I S h2 rz
        subst e2
        rw [hc] at h4
        cases h4
      show SeqAt.EqAt _ _ _ _ (decide _)
      rw [this]
      exact E
  · have hs := anyEq_some h
    rw [Bool.eq_iff_iff, hs]
    have e0 : ∀ f : Value → Bool, its.toArray.any f = its.any f := fun f => by simp
    rw [e0, List.any_eq_true]
    constructor
    · rintro ⟨u, hu2, hd⟩
      obtain ⟨z, w, h1, _, _, h4⟩ := of_decide_eq_true hd
      exact ⟨z, h1, h4⟩
    · rintro ⟨z, h1, h2⟩
      obtain ⟨j, hj⟩ := List.mem_iff_getElem?.mp h1
      obtain ⟨w, hw, rz⟩ := rr.get hj
      obtain ⟨u, hu3, rw'⟩ := ru.get hw
      exact ⟨u, List.mem_of_getElem? hu3, decide_eq_true ⟨z, w, h1, rz, rw', h2⟩⟩
theorem ow_in (hu : X.A.units + 64 < cLine) : OpW X cl (compareOp .In) (oIn false) := fun pins s σ H ρ st x y v w vu wu Q I S rx ry rv rw' h => by
  unfold oIn at h
  split at h
  · next b e =>
    have fin : Q (.bl b) H := Res.post.now S h _ (.bl _)
    have sq : ∀ {xs : List PV} {vs : List V} {a : Addr}, wu = .ref a → (SqL X.K H a vs ∨ SqT X.K H a vs) → RelPs X.K ρ H xs vs → anyEq (fun z => eqP st 60 z x) xs = some b → wpAny (model X.prog X.w) X.A (compareOp .In vu wu) (EP X pins σ Q) X.xe s := fun {xs vs a} ew hq rr h => by
      subst ew
      rcases hq with hq | hq
      · obtain ⟨its, ru, pl, _⟩ := I.list hq
        obtain ⟨f, h1, h2⟩ := items_in hu I S rx rv rr ru h
        exact SeqAt.in_listAt f pl.isList h1 ⟨.bl b, H, I, by rw [h2]; rfl, fin⟩
      · obtain ⟨its, ru, pl, _⟩ := I.tuple hq
        obtain ⟨f, h1, h2⟩ := items_in hu I S rx rv rr ru h
        exact SeqAt.in_tupleAt f pl h1 ⟨.bl b, H, I, by rw [h2]; rfl, fin⟩
    unfold inP at e
    split at e
    · split at e
      · cases e
        cases rx
        cases ry
        exact op_in_str pins s σ H _ _ vu wu Q I rv rw' ⟨_, _, rfl, rfl, fin⟩
      · cases e
    · split at e
      · next kvs lk eq =>
        split at e
        · next hk =>
          cases e
          cases ry with
          | @ref _ a hr =>
            obtain rfl : wu = Value.ref a := rw'
            refine dget_with I S hr eq rx hk fun H' o I' g or bk => ?_
            refine d_in (by omega) I' g rv fun s' I2 => ⟨.bl o.isSome, H, bk s' I2, rfl, ?_⟩
            have : o.isSome = (dgetP kvs x).isSome := by
              cases o <;> cases q : dgetP kvs x <;> rw [q] at or <;> first | rfl | exact or.elim
            rw [this]
            exact fin
        · cases e
      · next eq =>
        cases ry with
        | ref hr =>
          cases rw'
          obtain ⟨vs, hq, rr⟩ := S.at_ hr eq
          exact sq rfl (.inl (SqL.of hq)) rr e
      · cases e
    · cases ry with
      | tup hq rr => cases rw'; exact sq rfl (.inr (SqT.of hq)) rr e
    · cases ry with
      | ktp hq rr => cases rw'; exact sq rfl (.inr hq.sq) rr e
    · cases ry with
      | rls hq rr => cases rw'; exact sq rfl (.inl hq.sql) rr e
    · cases e
  · exact h.elim
theorem ow_notin (hu : X.A.units + 64 < cLine) : OpW X cl (compareOp .NotIn) (oIn true) := fun pins s σ H ρ st x y v w vu wu Q I S rx ry rv rw' h => by
  unfold oIn at h
  split at h
  · next b e =>
    have fin : Q (.bl (!b)) H := Res.post.now S h _ (.bl _)
    have sq : ∀ {xs : List PV} {vs : List V} {a : Addr}, wu = .ref a → (SqL X.K H a vs ∨ SqT X.K H a vs) → RelPs X.K ρ H xs vs → anyEq (fun z => eqP st 60 z x) xs = some b → wpAny (model X.prog X.w) X.A (compareOp .NotIn vu wu) (EP X pins σ Q) X.xe s := fun {xs vs a} ew hq rr h => by
      subst ew
      rcases hq with hq | hq
      · obtain ⟨its, ru, pl, _⟩ := I.list hq
        obtain ⟨f, h1, h2⟩ := items_in hu I S rx rv rr ru h
        exact SeqAt.notIn_listAt f pl.isList h1 ⟨.bl (!b), H, I, by rw [h2]; rfl, fin⟩
      · obtain ⟨its, ru, pl, _⟩ := I.tuple hq
        obtain ⟨f, h1, h2⟩ := items_in hu I S rx rv rr ru h
        exact SeqAt.notIn_tupleAt f pl h1 ⟨.bl (!b), H, I, by rw [h2]; rfl, fin⟩
    unfold inP at e
    split at e
    · split at e
      · cases e
        cases rx
        cases ry
        exact op_notin_str pins s σ H _ _ vu wu Q I rv rw' ⟨_, _, rfl, rfl, fin⟩
      · cases e
    · split at e
      · next kvs lk eq =>
        split at e
        · next hk =>
          cases e
          cases ry with
          | @ref _ a hr =>
            obtain rfl : wu = Value.ref a := rw'
            refine dget_with I S hr eq rx hk fun H' o I' g or bk => ?_
            refine d_notIn (by omega) I' g rv fun s' I2 => ⟨.bl (!o.isSome), H, bk s' I2, rfl, ?_⟩
            have : o.isSome = (dgetP kvs x).isSome := by
              cases o <;> cases q : dgetP kvs x <;> rw [q] at or <;> first | rfl | exact or.elim
            rw [this]
            exact fin
        · cases e
      · next eq =>
        cases ry with
        | ref hr =>
          cases rw'
          obtain ⟨vs, hq, rr⟩ := S.at_ hr eq
          exact sq rfl (.inl (SqL.of hq)) rr e
      · cases e
    · cases ry with
      | tup hq rr => cases rw'; exact sq rfl (.inr (SqT.of hq)) rr e
    · cases ry with
      | ktp hq rr => cases rw'; exact sq rfl (.inr hq.sq) rr e
    · cases ry with
      | rls hq rr => cases rw'; exact sq rfl (.inl hq.sql) rr e
    · cases e
  · exact h.elim
theorem me_in (hu : X.A.units + 64 < cLine) (ha : PE X a (tM X.K cl W fa)) (hb : PE X b (tM X.K cl W fb)) (hk : behindInMarks .In b = false := by first | exact nomark _ | rfl) : PE X (.Compare a [.In] [b] pos) (tM X.K cl W (mOp (oIn false) fa fb)) := me_cmp (ow_in hu) calm_in ha hb hk
theorem me_notin (hu : X.A.units + 64 < cLine) (ha : PE X a (tM X.K cl W fa)) (hb : PE X b (tM X.K cl W fb)) (hk : behindInMarks .NotIn b = false := by first | exact nomark _ | rfl) : PE X (.Compare a [.NotIn] [b] pos) (tM X.K cl W (mOp (oIn true) fa fb)) := me_cmp (ow_notin hu) calm_in ha hb hk

def tyOf (x : PV) (st : Sto) : Option String := match x with
  | .non => some "NoneType"
  | .bl _ => some "bool"
  | .int _ => some "int"
  | .str _ => some "str"
  | .tup _ => some "tuple"
  | .ktp _ => some "tuple"
  | .rls _ => some "list"
  | .ref n => match st.get n with
    | some (.lst _) => some "list"
    | some (.dct kvs lk) => if lk = true ∧ kvs.all (fun p => (keyK p.1).isSome) = false then none else some "dict"
    | _ => none
  | .ty _ => none
def kitTy (t c : String) : Option Bool := if t = c then some true else if t = "bool" ∧ c = "int" then some true else
  if (t = "NoneType" ∨ t = "bool" ∨ t = "int" ∨ t = "str" ∨ t = "tuple" ∨ t = "list" ∨ t = "dict") ∧ (c = "bool" ∨ c = "int" ∨ c = "str" ∨ c = "tuple" ∨ c = "list" ∨ c = "dict") then some false else none
theorem kitTy_ok {K : PySem.W.Frag} {t c : String} {b : Bool} (h : kitTy t c = some b) : PySem.W.kitOne K (.type t) (.type c) = some b := by
  unfold kitTy at h
  split at h
  · next e =>
    cases h
    subst e
    unfold PySem.W.kitOne
    rw [if_pos (by simp)]
  · split at h
    · next e =>
      cases h
      obtain ⟨rfl, rfl⟩ := e
      rfl
    · split at h
      · next n1 n2 e =>
        cases h
        obtain ⟨h1, h2⟩ := e
        rcases h1 with rfl | rfl | rfl | rfl | rfl | rfl | rfl <;> rcases h2 with rfl | rfl | rfl | rfl | rfl | rfl <;> first | exact absurd rfl n1 | exact absurd ⟨rfl, rfl⟩ n2 | rfl
      · cases h
def gIsi : PF := fun xs st => match xs with
  | [x, .ty c] => match tyOf x st with
    | some t => (kitTy t c).map fun b => (.bl b, st)
    | none => none
  | _ => none
theorem ty_at {K : PySem.W.Frag} {ρ : Rho} {st : Sto} {H : Hp} {x : PV} {v : V} {t : String} (S : Sim K cl ρ st H) (r : RelP K ρ H x v) (h : tyOf x st = some t) : TyX K H v (.type t) := by
  unfold tyOf at h
  split at h
  · cases h; cases r; exact .base .non
  · cases h; cases r; exact .base (.bl _)
  · cases h; cases r; exact .base (.int _)
  · cases h; cases r; exact .base (.str _)
  · cases h
    cases r with
    | tup hq _ => exact .base (.tup hq)
  · cases h
    cases r with
    | ktp hq _ => obtain ⟨o, _, _, h1, h2, _⟩ := hq; exact .kTuple h1 h2
  · cases h
    cases r with
    | rls hq _ =>
      rcases hq with ⟨o, hq⟩ | ⟨o, _, _, h1, h2, _⟩
      · exact .base (.frz hq)
      · exact .kList h1 h2
  · split at h
    · next eq =>
      cases h
      cases r with
      | ref hr =>
        obtain ⟨vs, hq, rr⟩ := S.at_ hr eq
        exact .base (.lst hq)
    · next kvs lk eq =>
      split at h
      · cases h
      · next hn =>
        cases h
        cases r with
        | ref hr =>
          obtain ⟨u, rd, q⟩ := S.at_ hr eq
          cases lk with
          | false =>
            rw [if_neg Bool.false_ne_true] at q
            rcases rd with ⟨ws, rfl, rd⟩ | ⟨ne, ws, rfl, rd⟩
            · exact .base (.dK q)
            · exact .base (.dT q)
          | true =>
            have hk : kvs.all (fun p => (keyK p.1).isSome) = true := by
              cases z : kvs.all (fun p => (keyK p.1).isSome) with
              | true => rfl
              | false => exact absurd ⟨rfl, z⟩ hn
            obtain ⟨ws, hq, rr⟩ := rd_dk S hr eq hk
            rcases hq with hq | ⟨o, hq⟩
            · exact .base (.dK hq)
            · exact .fDict hq
    · cases h
  · cases h
theorem cr_isi : CallR X (.builtin "isinstance") (rG X.K cl gIsi) := CR_imp call_isi fun ρ st H xs vs v st' Q S rs e h => by
  unfold gIsi at e
  split at e
  · next x c =>
    split at e
    · next t et =>
      obtain ⟨b, hb, h2⟩ := Option.map_eq_some_iff.mp e
      cases h2
      cases rs with
      | cons rx rr =>
        cases rr with
        | cons ry rr =>
          cases rr
          cases ry
          exact ⟨_, _, _, _, b, rfl, .ty c, ty_at S rx et, kitTy_ok hb, Res.post.now S h _ (.bl _)⟩
    · cases e
  · cases e
/-- a built-in type's name as a value -/
theorem me_tyn {x : Str} {n : String} (hg : Gl X x) (hm : X.mg x = none) (hv : bootBuiltins x = some (.type n)) (hn : x ≠ "__name__" := by decide) (hd : (x == ("__debug__" : Str)) = false := by decide) : PE X (.Name x pos) (tM X.K cl W (mC (.ty n))) :=
  me_c (pe_bltn (v := .ty n) hg hm hv rfl hn hd) fun _ _ => .ty n
end
end MP
set_option Elab.async false
set_option linter.all false
set_option maxRecDepth 100000
set_option maxHeartbeats 2000000
namespace MP
open PySem PySem.Spec L2
/-- what a method's receiver must be -/
def TyOk (X : Cx) (cl : CT) (T : String) (tp : PV → Sto → Bool) : Prop := ∀ (pins : List (Addr × Obj)) (σ : L2.St) (H : Hp) (s : Shared) (ρ : Rho) (st : Sto) (x : PV) (v : V) (u : Value), Inv X pins σ H s → Sim X.K cl ρ st H → RelP X.K ρ H x v → RelV v u → tp x st = true →
  s.TypeIs u T ∧ ∀ a, u = .ref a → ∃ ob, s.heap.get? a = some ob ∧ ob.dict = none
def tpL (x : PV) (st : Sto) : Bool := match x with
  | .ref n => match st.get n with
    | some (.lst _) => true
    | _ => false
  | .rls _ => true
  | _ => false
def tpD (x : PV) (st : Sto) : Bool := match x with
  | .ref n => match st.get n with
    | some (.dct _ _) => true
    | _ => false
  | _ => false
def tpS (x : PV) (_ : Sto) : Bool := match x with
  | .str _ => true
  | _ => false
section
variable {X : Cx} {cl : CT} {W : WX}
theorem ty_list : TyOk X cl "list" tpL := fun pins σ H s ρ st x v u I S rx rv h => by
  unfold tpL at h
  split at h
  · split at h
    · next eq =>
      cases rx with
      | ref hr =>
        obtain ⟨vs, q, _⟩ := S.at_ hr eq
        exact tyV_is I rv (.inl ⟨rfl, _, SqL.of q⟩)
    · cases h
  · cases rx with
    | rls q _ => exact tyV_is I rv (.inl ⟨rfl, _, q.sql⟩)
  · cases h
theorem ty_dict : TyOk X cl "dict" tpD := fun pins σ H s ρ st x v u I S rx rv h => by
  unfold tpD at h
  split at h
  · split at h
    · next eq =>
      cases rx with
      | @ref _ a hr =>
        obtain ⟨w, rd, q⟩ := S.at_ hr eq
        obtain rfl : u = Value.ref a := rv
        have d : IsD H a := by
          rcases rd with ⟨ws, rfl, _⟩ | ⟨_, ws, rfl, _⟩
          · exact .inl ⟨ws, rd_lk q⟩
          · exact .inr ⟨ws, rd_lk q⟩
        obtain ⟨t1, t2, _⟩ := isD_at I d
        exact ⟨t1, t2⟩
    · cases h
  · cases h
theorem ty_str : TyOk X cl "str" tpS := fun pins σ H s ρ st x v u I S rx rv h => by
  unfold tpS at h
  split at h
  · cases rx
    obtain ⟨t, rfl⟩ := rv
    exact ⟨typeIs_str _ _ _, fun _ e => nomatch e⟩
  · cases h
variable {o e : Expr} {es : List Expr} {fo : ME} {ga : MEs} {name : Str} {apos cpos : Pos} {T id : String} {g : PF} {tp : PV → Sto → Bool}
def mBM (tp : PV → Sto → Bool) (g : PF) (fo : ME) (ga : MEs) : ME := fun σ st => (fo σ st).bind fun x st1 => if tp x st1 = true then (ga σ st1).bind fun xs st2 => (match g (x :: xs) st2 with
  | some (v, st3) => .ok v st3
  | none => .stuck) else .stuck
theorem me_bm0 (pa : PlainAttrs T) (slot : Slot T name id) (hty : typeOf (.builtin id) = pure (.type "method_descriptor")) (ht : TyOk X cl T tp) (hm : CallR X (.builtin id) (rG X.K cl g)) (ho : PE X o (tM X.K cl W fo))
    (hbase : attributeBase o name X.env (eval o X.env) = eval o X.env := by rfl) (hline : (apos.endLine == cpos.line) = true := by rfl) : PE X (.Call (.Attribute o name apos) [] [] cpos) (tM X.K cl W (mBM tp g fo mNil)) := by
  refine ⟨fun pins s σ H Q I ⟨ρ, st, σp, S, rs, h⟩ => ?_⟩
  refine wpAny_Call_method0_late hbase hline (thn (ho.run pins s σ H _ I (tM.beh S rs (Res.post.bind h))) fun v s1 ⟨x, H1, I1, r1, ρ1, st1, y, S1, rs1, ry, h1⟩ => ?_)
  dsimp only at h1
  split at h1
  · next htp =>
    obtain ⟨t1, t2⟩ := ht pins σ H1 s1 ρ1 st1 y x v I1 S1 ry r1 htp
    refine ⟨T, id, pa, slot, hty, t1, t2, Calls.callWith_builtin rfl (PySem.evalArgs_none ?_)⟩
    have h2 := Res.post.now S1 (Res.post.bind (r := mNil σp st1) h1)
    split at h2
    · next z st2 eq => exact hm pins s1 σ H1 [x] [v] Q I1 (.cons r1 .nil) ⟨ρ1, st1, [y], z, st2, S1, .cons ry .nil, eq, h2⟩
    · exact h2.elim
  · exact h1.elim
theorem me_bm (pa : PlainAttrs T) (slot : Slot T name id) (hty : typeOf (.builtin id) = pure (.type "method_descriptor")) (ht : TyOk X cl T tp) (hm : CallR X (.builtin id) (rG X.K cl g)) (ho : PE X o (tM X.K cl W fo)) (ha : PA X (e :: es) (tMA X.K cl W ga))
    (hbase : attributeBase o name X.env (eval o X.env) = eval o X.env := by rfl)
    (hfew : ((backTo cpos (starEach (e :: es) X.env)).all (fun x => !x.1) && (backToKw cpos (keywordEach [] X.env)).all (fun x => x.1.isSome)
      && decide ((e :: es).length + ([] : List Keyword).length + (if ([] : List Keyword).isEmpty then 0 else 1) < 30)) = true := by rfl)
    (hline : (apos.endLine == cpos.line) = true := by rfl) (hs : starEach (e :: es) X.env = (false, eval e X.env) :: starEach es X.env := by rfl) (hplain : (backTo cpos (starEach es X.env)).any (·.1) = false := by rfl) :
    PE X (.Call (.Attribute o name apos) (e :: es) [] cpos) (tM X.K cl W (mBM tp g fo ga)) := by
  refine ⟨fun pins s σ H Q I ⟨ρ, st, σp, S, rs, h⟩ => ?_⟩
  refine wpAny_Call_method_late hbase hfew hline rfl (thn (ho.run pins s σ H _ I (tM.beh S rs (Res.post.bind h))) fun v s1 ⟨x, H1, I1, r1, ρ1, st1, y, S1, rs1, ry, h1⟩ => ?_)
  dsimp only at h1
  split at h1
  · next htp =>
    obtain ⟨t1, t2⟩ := ht pins σ H1 s1 ρ1 st1 y x v I1 S1 ry r1 htp
    refine ⟨T, id, pa, slot, hty, t1, t2, ?_⟩
    have hA := ha.run cpos pins s1 σ H1 _ I1 (tMA.beh S1 rs1 (Res.post.imp (Res.post.bind h1) (fun ys st2 ρ2 H2 l2 e2 s2 h2 => (⟨ry.mono l2 e2, h2⟩ : RelP X.K ρ2 H2 y x ∧ _)) fun _ _ _ z => z))
    rw [hs] at hA ⊢
    refine Calls.callWith_builtin (by show (false || (backTo cpos (starEach es X.env)).any (·.1)) = false; rw [hplain] <;> rfl) (Calls.evalArgs_plain ?_)
    refine thn hA fun us s2 ⟨vs, H2, I2, r2, ρ2, st2, ys, S2, rs2, rys, ry2, h2⟩ => ?_
    split at h2
    · next z st3 eq => exact hm pins s2 σ H2 (x :: vs) (v :: us) Q I2 (.cons r1 r2) ⟨ρ2, st2, y :: ys, z, st3, S2, .cons ry2 rys, eq, h2⟩
    · exact h2.elim
  · exact h1.elim

theorem lst_write {K : PySem.W.Frag} {ρ : Rho} {st : Sto} {H : Hp} {n : Nat} {a : Addr} {vs ws : List V} {ys : List PV} (S : Sim K cl ρ st H) (hr : ρ n = some a) (q : H a = some (.lst vs)) (r : RelPs K ρ H ys ws) :
    Ext K H (upd H a (.lst ws)) ∧ Sim K cl ρ (st.set n (.lst ys)) (upd H a (.lst ws)) := by
  have ex : Ext K H (upd H a (.lst ws)) := Ext.write q trivial
  exact ⟨ex, S.write hr q trivial ⟨ws, upd_same, r.mono (Le.refl _) ex⟩⟩
/-- a method of MtM's shape -/
theorem MR_imp {r : V → List V → Hp → VK → Prop} (h : MtM X id r) (i : ∀ ρ st H x xs y ys v st' (Q : VK), Sim X.K cl ρ st H → RelP X.K ρ H x y → RelPs X.K ρ H xs ys → g (x :: xs) st = some (v, st') → (Res.ok v st').post X.K cl ρ H (Val X.K Q) NoE → r y ys H Q) (hn : ∀ st, g [] st = none) : CallR X (.builtin id) (rG X.K cl g) := by
  intro pins s σ H vs us Q I r0 ⟨ρ, st, xs, v, st', S, rs, e, q⟩
  cases rs with
  | nil => rw [hn] at e; cases e
  | cons rx rr =>
    cases r0 with
    | cons r1 r2 => exact h pins s σ H _ _ _ _ Q I r1 r2 (i ρ st H _ _ _ _ v st' Q S rx rr e q)
def gAppend : PF := fun xs st => match xs with
  | [x, y] => match ownL x st with
    | some (n, ys) => if sz (ys.length + 1) = true then some (.non, st.set n (.lst (ys ++ [y]))) else none
    | none => none
  | _ => none
theorem mr_append : CallR X (.builtin "list.append") (rG X.K cl gAppend) := MR_imp mt_append (fun ρ st H x xs y ys v st' Q S rx rs e h => by
  unfold gAppend at e
  split at e
  · next heq =>
    cases heq
    split at e
    · next n zs eo =>
      split at e
      · next hz =>
        cases e
        obtain ⟨a, vs, rfl, hr, q, r, _⟩ := ownL_at S rx eo
        cases rs with
        | cons ry rr =>
          cases rr
          refine ⟨a, vs, _, rfl, rfl, q, by rw [← r.length]; exact sz_lt hz, ?_⟩
          obtain ⟨ex, S2⟩ := lst_write S hr q (r.append (.cons ry .nil))
          exact h ρ _ (Le.refl _) ex S2 _ .non
      · cases e
    · cases e
  · cases e) fun _ => rfl
def gExtend : PF := fun xs st => match xs with
  | [x, y] => match ownL x st, ownL y st with
    | some (n, xs), some (_, ys) => if sz (xs.length + ys.length) = true then some (.non, st.set n (.lst (xs ++ ys))) else none
    | _, _ => none
  | _ => none
theorem mr_extend : CallR X (.builtin "list.extend") (rG X.K cl gExtend) := MR_imp mt_extend (fun ρ st H x xs y ys v st' Q S rx rs e h => by
  unfold gExtend at e
  split at e
  · next heq =>
    cases heq
    split at e
    · next n zs _ ws eo eo2 =>
      split at e
      · next hz =>
        cases e
        obtain ⟨a, vs, rfl, hr, q, r, _⟩ := ownL_at S rx eo
        cases rs with
        | cons ry rr =>
          cases rr
          obtain ⟨b, us, rfl, hr2, q2, r2, _⟩ := ownL_at S ry eo2
          refine ⟨a, b, vs, us, rfl, rfl, q, q2, by rw [← r.length, ← r2.length]; exact sz_ok hz, ?_⟩
          obtain ⟨ex, S2⟩ := lst_write S hr q (r.append r2)
          exact h ρ _ (Le.refl _) ex S2 _ .non
      · cases e
    · cases e
  · cases e) fun _ => rfl
theorem RelPs.dropLast {K : PySem.W.Frag} {ρ : Rho} {H : Hp} {xs : List PV} {vs : List V} (r : RelPs K ρ H xs vs) : RelPs K ρ H xs.dropLast vs.dropLast := by
  rw [List.dropLast_eq_take, List.dropLast_eq_take, r.length]
  exact r.take _
theorem RelPs.erase {K : PySem.W.Frag} {ρ : Rho} {H : Hp} {xs : List PV} {vs : List V} (r : RelPs K ρ H xs vs) (k : Nat) : RelPs K ρ H (xs.eraseIdx k) (vs.eraseIdx k) := by
  rw [List.eraseIdx_eq_take_drop_succ, List.eraseIdx_eq_take_drop_succ]
  exact (r.take _).append (r.drop _)
def gPop : PF := fun xs st => match xs with
  | [x] => match ownL x st with
    | some (n, ys) => match ys[ys.length - 1]? with
      | some y => some (y, st.set n (.lst ys.dropLast))
      | none => none
    | none => none
  | _ => none
theorem mr_pop0 : CallR X (.builtin "list.pop") (rG X.K cl gPop) := MR_imp mt_pop (fun ρ st H x xs y ys v st' Q S rx rs e h => by
  unfold gPop at e
  split at e
  · next heq =>
    cases heq
    split at e
    · next n zs eo =>
      split at e
      · next w ew =>
        cases e
        obtain ⟨a, vs, rfl, hr, q, r, _⟩ := ownL_at S rx eo
        cases rs
        obtain ⟨u, hu, ru⟩ := r.get ew
        refine ⟨a, vs, u, rfl, rfl, q, by rw [← r.length]; exact hu, ?_⟩
        obtain ⟨ex, S2⟩ := lst_write S hr q r.dropLast
        exact h ρ _ (Le.refl _) ex S2 _ (ru.mono (Le.refl _) ex)
      · cases e
    · cases e
  · cases e) fun _ => rfl
def gPopAt : PF := fun xs st => match xs with
  | [x, .int i] => match ownL x st with
    | some (n, ys) => match ixN ys.length i with
      | some k => match ys[k]? with
        | some y => if sz ys.length = true then some (y, st.set n (.lst (ys.eraseIdx k))) else none
        | none => none
      | none => none
    | none => none
  | _ => none
theorem mr_popAt : CallR X (.builtin "list.pop") (rG X.K cl gPopAt) := MR_imp mt_popAt (fun ρ st H x xs y ys v st' Q S rx rs e h => by
  unfold gPopAt at e
  split at e
  · next heq =>
    cases heq
    split at e
    · next n zs eo =>
      split at e
      · next k ek =>
        split at e
        · next w ew =>
          split at e
          · next hz =>
            cases e
            obtain ⟨a, vs, rfl, hr, q, r, _⟩ := ownL_at S rx eo
            cases rs with
            | cons ry rr =>
              cases rr
              cases ry
              obtain ⟨u, hu, ru⟩ := r.get ew
              obtain ⟨h1, h2, h3, h4⟩ := ixN_seq ek
              have hz := of_decide_eq_true hz
              refine ⟨a, vs, _, k, u, rfl, rfl, q, by omega, by omega, by rw [← r.length]; exact h1, hu, ?_⟩
              obtain ⟨ex, S2⟩ := lst_write S hr q (r.erase k)
              exact h ρ _ (Le.refl _) ex S2 _ (ru.mono (Le.refl _) ex)
          · cases e
        · cases e
      · cases e
    · cases e
  · cases e) fun _ => rfl
def gClear : PF := fun xs st => match xs with
  | [x] => match ownL x st with
    | some (n, ys) => some (.non, st.set n (.lst []))
    | none => none
  | _ => none
theorem mr_clear : CallR X (.builtin "list.clear") (rG X.K cl gClear) := MR_imp mt_clear (fun ρ st H x xs y ys v st' Q S rx rs e h => by
  unfold gClear at e
  split at e
  · next heq =>
    cases heq
    split at e
    · next n zs eo =>
      cases e
      obtain ⟨a, vs, rfl, hr, q, r, _⟩ := ownL_at S rx eo
      cases rs
      refine ⟨a, vs, rfl, rfl, q, ?_⟩
      obtain ⟨ex, S2⟩ := lst_write S hr q (ys := []) (ws := []) .nil
      exact h ρ _ (Le.refl _) ex S2 _ .non
    · cases e
  · cases e) fun _ => rfl
def insP (ys : List PV) (i : Nat) (y : PV) : List PV := ys.take i ++ y :: ys.drop i

def dctOf (x : PV) (st : Sto) : Option (Nat × List (PV × PV) × Bool) := match x with
  | .ref n => match st.get n with
    | some (.dct kvs lk) => some (n, kvs, lk)
    | _ => none
  | _ => none
theorem dctOf_at {K : PySem.W.Frag} {ρ : Rho} {st : Sto} {H : Hp} {x : PV} {v : V} {n : Nat} {kvs : List (PV × PV)} {lk : Bool} (r : RelP K ρ H x v) (h : dctOf x st = some (n, kvs, lk)) : x = .ref n ∧ st.get n = some (.dct kvs lk) ∧ ∃ a, v = .ref a ∧ ρ n = some a := by
  unfold dctOf at h
  split at h
  · split at h
    · next eq =>
      cases h
      cases r with
      | ref hr => exact ⟨rfl, eq, _, rfl, hr⟩
    · cases h
  · cases h
def gGet1 : PF := fun xs st => match xs with
  | [x, y] => match dctOf x st with
    | some (n, kvs, lk) => if kfit kvs lk y = true then some ((dgetP kvs y).getD .non, st) else none
    | none => none
  | _ => none
def gGet2 : PF := fun xs st => match xs with
  | [x, y, z] => match dctOf x st with
    | some (n, kvs, lk) => if kfit kvs lk y = true then some ((dgetP kvs y).getD z, st) else none
    | none => none
  | _ => none
theorem or_getD {K : PySem.W.Frag} {ρ : Rho} {H : Hp} {o : Option PV} {p : Option V} {x : PV} {v : V} (h : OR K ρ H o p) (r : RelP K ρ H x v) : RelP K ρ H (o.getD x) (p.getD v) := by
  cases o <;> cases p <;> first | exact h | exact h.elim | exact r
theorem mr_get1 (hu : X.A.units + 1 < cLine) : CallR X (.builtin "dict.get") (rG X.K cl gGet1) := by
  intro pins s σ H vs us Q I r ⟨ρ, st, xs, v, st', S, rs, e, h⟩
  unfold gGet1 at e
  split at e
  · split at e
    · next n kvs lk ed =>
      split at e
      · next hk =>
        cases e
        cases rs with
        | cons rx rr =>
          cases rr with
          | cons ry rr =>
            cases rr
            obtain ⟨rfl, eg, a, rfl, hr⟩ := dctOf_at rx ed
            obtain ⟨u1, u2, rfl, r1, r2⟩ := vals2 r
            cases r1
            refine dget_with I S hr eg ry hk fun H' o I' g or bk => ?_
            exact d_get1 hu I' g r2 fun w' s' I2 rw' => ⟨_, H, bk s' I2, rw', Res.post.now S h _ (or_getD or .non)⟩
      · cases e
    · cases e
  · cases e
theorem mr_get2 (hu : X.A.units + 1 < cLine) : CallR X (.builtin "dict.get") (rG X.K cl gGet2) := by
  intro pins s σ H vs us Q I r ⟨ρ, st, xs, v, st', S, rs, e, h⟩
  unfold gGet2 at e
  split at e
  · split at e
    · next n kvs lk ed =>
      split at e
      · next hk =>
        cases e
        cases rs with
        | cons rx rr =>
          cases rr with
          | cons ry rr =>
            cases rr with
            | cons rz rr =>
              cases rr
              obtain ⟨rfl, eg, a, rfl, hr⟩ := dctOf_at rx ed
              cases r with
              | cons r1 r =>
                cases r with
                | cons r2 r =>
                  cases r with
                  | cons r3 r =>
                    cases r
                    cases r1
                    refine dget_with I S hr eg ry hk fun H' o I' g or bk => ?_
                    exact d_get2 hu I' g r2 r3 fun w' s' I2 rw' => ⟨_, H, bk s' I2, rw', Res.post.now S h _ (or_getD or rz)⟩
      · cases e
    · cases e
  · cases e
/-- o[i] = v -/
def setP (o i v : PV) (st : Sto) : Option Sto := match o with
  | .ref n => match st.get n with
    | some (.lst xs) => match i with
      | .int k => match ixN xs.length k with
        | some j => some (st.set n (.lst (xs.set j v)))
        | none => none
      | _ => none
    | some (.dct kvs false) => if kfit kvs false i = true ∧ sz (kvs.length + 1) = true then some (st.set n (.dct (dputP kvs i v) false)) else none
    | _ => none
  | _ => none
def tSetP (K : PySem.W.Frag) (cl : CT) : TSet := fun o i v H Q => ∃ ρ st p q r st', Sim K cl ρ st H ∧ RelP K ρ H p o ∧ RelP K ρ H q i ∧ RelP K ρ H r v ∧ setP p q r st = some st' ∧ ∀ H', Ext K H H' → Sim K cl ρ st' H' → Q H'
theorem set_mp (hu : X.A.units + 1 < cLine) : PSet X (tSetP X.K cl) := by
  intro pins s σ H o i v ov iv u Q I ro ri rv ⟨ρ, st, p, q, r, st', S, rp, rq, rr, e, k⟩
  unfold setP at e
  split at e
  · split at e
    · next xs eg =>
      split at e
      · next kk =>
        split at e
        · next j ej =>
          cases e
          cases rq
          cases rp with
          | @ref _ a hr =>
            obtain ⟨vs, hq, rs⟩ := S.at_ hr eg
            obtain ⟨ex, S2⟩ := lst_write S hr hq (rs.set j rr)
            exact set_list pins s σ H _ _ v ov iv u Q I ro ri rv ⟨a, vs, _, j, rfl, rfl, hq, by rw [← rs.length]; exact ej, k _ ex S2⟩
        · cases e
      · cases e
    · next kvs eg =>
      split at e
      · next hk =>
        cases e
        cases rp with
        | @ref _ a hr =>
          obtain rfl : ov = Value.ref a := ro
          refine dput_with I S hr eg rq rr hk.1 (sz_lt hk.2) fun H1 H2 I1 g ex S2 => ?_
          exact d_setItem hu I1 g ri rv fun s' I2 => ⟨H2, I2, k H2 ex S2⟩
      · cases e
    · cases e
  · cases e
variable {a b c value : Expr} {fa fb fc fv : ME} {pos pos' p2 : Pos}
/-- o[i] = e -/
def sSetIx (fo fi fv : ME) : MS := fun σ st => (fv σ st).toS σ fun v st1 => (fo σ st1).toS σ fun o st2 => (fi σ st2).toS σ fun i st3 => match setP o i v st3 with
  | some st4 => .nx σ st4
  | none => .stuck
theorem ms_setIx (hu : X.A.units + 1 < cLine) (ho : PE X a (tM X.K cl W fa)) (hi : PE X b (tM X.K cl W fb)) (hv : PE X value (tM X.K cl W fv)) (hs : swapsWithSole [.Subscript a b pos'] value pos.line X.env = pure false := by rfl) (hw : swappedStores [.Subscript a b pos'] value X.env = pure none := by rfl)
    (h1 : (assignEach [.Subscript a b pos'] X.env).map (·.2) = [assign (.Subscript a b pos') X.env] := by rfl)
    (hasg : ∀ v, assign (.Subscript a b pos') X.env v = (do
      let ov ← holding [v] (eval a X.env)
      let iv ← holding [v, ov] (eval b X.env)
      standAt pos'
      holding [v, ov, iv] (setItem ov iv v)
      release [v, ov, iv] []) := by intro _; rfl) : PS X (.Assign [.Subscript a b pos'] value pos) (tMS X.K cl W (sSetIx fa fb fv)) :=
  (ps_asg hv (pg_sub ho hi (set_mp (cl := cl) hu) hasg) hs hw h1).imp fun D σ H ⟨ρ, st, σp, S, rs, h⟩ => by
    refine ⟨ρ, st, σp, S, rs, Res.post.imp (toS_post rs h) (fun v st1 ρ1 H1 l1 e1 S1 h1 vv rv => ?_) fun _ _ _ z => z⟩
    have rs1 := rs.mono l1 e1
    refine ⟨ρ1, st1, σp, S1, rs1, Res.post.imp (toS_post rs1 h1) (fun o st2 ρ2 H2 l2 e2 S2 h2 ov ro => ?_) fun _ _ _ z => z⟩
    have rs2 := rs1.mono l2 e2
    refine ⟨ρ2, st2, σp, S2, rs2, Res.post.imp (toS_post rs2 h2) (fun i st3 ρ3 H3 l3 e3 S3 h3 iv ri => ?_) fun _ _ _ z => z⟩
    split at h3
    · next st4 e4 => exact ⟨ρ3, st3, o, i, v, st4, S3, ro.mono l3 e3, ri, (rv.mono l2 e2).mono l3 e3, e4, fun H4 ex S4 => h3 ρ3 H4 σ (Le.refl _) ex S4 ((rs2.mono l3 e3).mono (Le.refl _) ex)⟩
    · exact h3.elim
/-- any other target: a, b, .. = e -/
def sAsg (g : MG) (fv : ME) : MS := fun σ st => (fv σ st).toS σ fun v st1 => match g v σ with
  | some σ2 => .nx σ2 st1
  | none => .stuck
theorem ms_asg {tg : Expr} {vs : List Nat} {g : MG} (hv : PE X value (tM X.K cl W fv)) (hg : PG X tg (tMG X.K vs g)) (hs : swapsWithSole [tg] value pos.line X.env = pure false := by rfl) (hw : swappedStores [tg] value X.env = pure none := by rfl) (h1 : (assignEach [tg] X.env).map (·.2) = [assign tg X.env] := by rfl) :
    PS X (.Assign [tg] value pos) (tMS X.K cl W (sAsg g fv)) :=
  (ps_asg hv hg hs hw h1).imp fun D σ H ⟨ρ, st, σp, S, rs, h⟩ => ⟨ρ, st, σp, S, rs, Res.post.imp (toS_post rs h) (fun v st1 ρ1 H1 l1 e1 S1 h1 vv rv => by
    split at h1
    · next σ2 eg => exact ⟨ρ1, σp, v, rs.mono l1 e1, rv, σ2, eg, fun σ' r' _ => h1 ρ1 H1 σ' (Le.refl _) (Ext.refl _) S1 r'⟩
    · exact h1.elim) fun _ _ _ z => z⟩
/-- x op= e, ints -/
def augI (op : Operator) (x y : PV) : Option PV := match op, x, y with
  | .Add, .int i, .int j => some (.int (i + j))
  | .Sub, .int i, .int j => some (.int (i - j))
  | _, _, _ => none
def sAug (op : Operator) (i : Nat) (fv : ME) : MS := fun σ st => match σ[i]? with
  | some (some x) => (fv σ st).toS σ fun y st1 => match augI op x y with
    | some z => .nx (σ.set i (some z)) st1
    | none => .stuck
  | _ => .stuck
theorem aug_go {op : Operator} {k : Int → Int → Int} {i : Nat} (hk : ∀ x y z, augI op x y = some z → ∃ a b, x = .int a ∧ y = .int b ∧ z = .int (k a b)) {D : Ends} {σ : L2.St} {H : Hp} (h : tMS X.K cl W (sAug op i fv) D σ H) : tAug i (tM X.K cl W fv) (ipI k) D σ H := by
  obtain ⟨ρ, st, σp, S, rs, h⟩ := h
  unfold sAug at h
  split at h
  · next x ex =>
    obtain ⟨v, hv, rv⟩ := rs.2 i x ex
    refine ⟨v, hv, ρ, st, σp, S, rs, Res.post.imp (toS_post rs h) (fun y st1 ρ1 H1 l1 e1 S1 h1 w rw' => ?_) fun _ _ _ z => z⟩
    split at h1
    · next z ez =>
      obtain ⟨a, b, rfl, rfl, rfl⟩ := hk x y z ez
      cases rv
      cases rw'
      exact ⟨a, b, rfl, rfl, h1 ρ1 H1 _ (Le.refl _) (Ext.refl _) S1 ((rs.mono l1 e1).set i (.int _))⟩
    · exact h1.elim
  · exact h.elim
theorem ms_augAdd {i : Nat} {x : Str} (hN : X.N.Nodup) (hi : X.N[i]? = some x) (hx : Loc X.env.scope x) (hv : PE X value (tM X.K cl W fv)) (hf : X.fn x = true ∨ X.env.scope.names.lookup x = some .local := by first | exact .inl rfl | exact .inr rfl | assumption) :
    PS X (.AugAssign (.Name x pos') .Add value pos) (tMS X.K cl W (sAug .Add i fv)) :=
  (ps_aug hN hi hx hv ip_add hf).imp fun D σ H h => aug_go (fun x y z e => by
    unfold augI at e
    split at e
    · cases e; exact ⟨_, _, rfl, rfl, rfl⟩
    · next q => cases q
    · cases e) h
theorem ms_augSub {i : Nat} {x : Str} (hN : X.N.Nodup) (hi : X.N[i]? = some x) (hx : Loc X.env.scope x) (hv : PE X value (tM X.K cl W fv)) (hf : X.fn x = true ∨ X.env.scope.names.lookup x = some .local := by first | exact .inl rfl | exact .inr rfl | assumption) :
    PS X (.AugAssign (.Name x pos') .Sub value pos) (tMS X.K cl W (sAug .Sub i fv)) :=
  (ps_aug hN hi hx hv ip_sub hf).imp fun D σ H h => aug_go (fun x y z e => by
    unfold augI at e
    split at e
    · next q => cases q
    · cases e; exact ⟨_, _, rfl, rfl, rfl⟩
    · cases e) h
end
end MP
set_option Elab.async false
set_option linter.all false
set_option maxRecDepth 100000
set_option maxHeartbeats 2000000
namespace MP
open PySem PySem.Spec L2
section
variable {prog : Program} {w : World} {A : Around} {E : Value → Shared → Prop} {s : Shared}
theorem wp_dictPut {d : Addr} {kvs : List (Key × Value)} {k : Key} {key v : Value} {Q : Unit → Shared → Prop} (hkey : (mixKind prog w).is k key = true) (hm : s.heap.DictOf (mixKind prog w) d kvs)
    (hQ : ∀ h', h'.DictOf (mixKind prog w) d (stored kvs k v) → Heap.SameBut d s.heap h' → Q () { s with heap := h' }) (hsz : kvs.length ≤ sizeLine) :
    wpAny (model prog w) A (dictPut d ((mixKind prog w).hash k) key v) Q E s := by
  obtain ⟨o, es, ep, ho, hc, hd, hk, hp, hn⟩ := hm
  have hes : es.size ≤ sizeLine := by have e1 := hp.length; have e2 : es.toList.length = es.size := by simp
                                      omega
  unfold dictPut
  refine wpAny_bind (wpAny_dictFind_of hkey ho hd hk ?_)
  have hidx : (es.findIdx? fun e => (mixKind prog w).is k e.key) = kvs.findIdx? fun kv => decide (kv.1 = k) := by
    rw [← hp.findIdx k]; obtain ⟨l⟩ := es; simp
  cases hi : es.findIdx? fun e => (mixKind prog w).is k e.key with
  | some i =>
    refine wpAny_updateDict ho hd (hQ _ ⟨_, _, ep, Heap.get?_update_self _ ho (Obj.isFreed_of_dict (Obj.data_mapDict hd _)),
      hc.mapDict _, Obj.data_mapDict hd _, hk.modify _ _, ?_, ?_⟩ (Heap.SameBut.update ..))
    · rw [stored, if_pos (any_of_findIdx_some (hidx ▸ hi))]
      have hl : (es.toList.findIdx? fun e => (mixKind prog w).is k e.key) = some i := by rw [← hi]; obtain ⟨l⟩ := es; simp
      have := hp.modify hn hl v
      obtain ⟨l⟩ := es
      simpa using this
    · rw [stored, if_pos (any_of_findIdx_some (hidx ▸ hi)), keys_map_store]; exact hn
  | none =>
    have hnot : k ∉ kvs.map (·.1) := not_mem_of_findIdx_none (hidx ▸ hi)
    have hany : ¬ (kvs.any fun kv => decide (kv.1 = k)) = true := by
      rw [List.any_eq_true]; rintro ⟨kv, hkv, he⟩
      exact hnot (List.mem_map.mpr ⟨kv, hkv, of_decide_eq_true he⟩)
    refine wpAny_updateDictKeys (hz := hes) ho hd (hQ _ ⟨_, _, ep + 1, Heap.get?_update_self _ ho (Obj.isFreed_of_dict (Obj.data_mapDictKeys hd _)),
      hc.mapDictKeys _, Obj.data_mapDictKeys hd _, hk.push hkey _, ?_, ?_⟩ (Heap.SameBut.update ..))
    · rw [stored, if_neg hany]
      have := hp.append hkey ((mixKind prog w).hash k) v
      obtain ⟨l⟩ := es
      simpa using this
    · rw [stored, if_neg hany, List.map_append, List.nodup_append]
      refine ⟨hn, by simp, ?_⟩
      intro a ha b hb
      simp only [List.map_cons, List.map_nil, List.mem_singleton] at hb
      subst hb
      exact fun e => hnot (e ▸ ha)
theorem wp_merge {d o : Addr} {kvs more : List (Key × Value)} {Q : Unit → Shared → Prop} (hdo : d ≠ o) (hoS : (o == sysModules) = false)
    (hd : s.heap.DictOf (mixKind prog w) d kvs) (ho : s.heap.DictOf (mixKind prog w) o more)
    (hQ : ∀ h', h'.DictOf (mixKind prog w) d (merged kvs more) → Heap.SameBut d s.heap h' → Q () { s with heap := h' }) (hsz : kvs.length + more.length ≤ sizeLine) :
    wpAny (model prog w) A (mergeMapping d (.ref o) false) Q E s := by
  obtain ⟨od, esd, epd, hod, hcd, hdd, hkd, hpd, hnd⟩ := id hd
  obtain ⟨oo, eso, epo, hoo, hco, hdo', hko, hpo, hno⟩ := id ho
  have hlen : more.length = eso.size := by rw [← hpo.length]; simp
  unfold mergeMapping
  refine wpAny_bind (wpAny_isInstance ho.typeIs isSubtype_dict_dict ?_)
  rw [if_pos rfl]
  refine wpAny_bind (wpAny_specialOf ho.typeIs F.slot_dict_iter.lookup (wpAny_bind (wpAny_pure ?_)))
  have ebt : (some (Value.builtin "dict.__iter__") == some (Value.builtin "dict.__iter__")) = true := by simp
  rw [ebt]
  dsimp only
  rw [if_neg (by rw [hoS]; exact Bool.false_ne_true)]
  refine wpAny_bind (wpAny_dictEntries hod hdd ?_)
  have loop : wpAny (model prog w) A (do
      let l ← dictEntries o
      let epoch ← dictEpoch o
      forIn (List.range l.size) PUnit.unit fun i (_ : PUnit) => (do
        let l' ← dictEntries o
        match l'[i]? with
          | some e => do
            holding [e.key, e.val] (dictPut d e.hash e.key e.val)
            let ep' ← dictEpoch o
            if (ep' != epoch) = true then do
                (unsupported "dict.changed-during-merge" : Sem PUnit)
                pure (ForInStep.yield PUnit.unit)
              else pure (ForInStep.yield PUnit.unit)
          | _ => do
            (unsupported "dict.changed-during-merge" : Sem PUnit)
            pure (ForInStep.yield PUnit.unit) : Sem (ForInStep PUnit))
      pure ()) Q E s := by
    refine wpAny_bind (wpAny_dictEntries hoo hdo' ?_)
    refine wpAny_bind (wpAny_dictEpoch hoo hdo' ?_)
    refine wpAny_bind ?_
    rw [List.range_eq_range']
    refine wpAny_forIn_list _
      (fun rest _ s' => ∃ h' i, s' = { s with heap := h' } ∧ rest = List.range' i (eso.size - i) ∧ i ≤ eso.size ∧ h'.DictOf (mixKind prog w) d (merged kvs (more.take i)) ∧ h'.get? o = some oo ∧ Heap.SameBut d s.heap h')
      _ ?_ ?_ _ _ ⟨s.heap, 0, rfl, by simp, Nat.zero_le _, by simpa [merged] using hd, hoo, Heap.SameBut.refl _ _⟩
    · rintro x rest b s' ⟨h', i, rfl, hr, hi, hd', hoo', hs'⟩
      have hlt : i < eso.size := by
        rcases Nat.lt_or_ge i eso.size with h | h
        · exact h
        · rw [Nat.sub_eq_zero_of_le h] at hr; simp at hr
      obtain ⟨rfl, hrest⟩ : x = i ∧ rest = List.range' (i + 1) (eso.size - (i + 1)) := by
        have e : eso.size - i = (eso.size - (i + 1)) + 1 := by omega
        rw [e, List.range'_succ] at hr
        injection hr with h1 h2
        exact ⟨h1, h2⟩
      refine wpAny_bind (wpAny_dictEntries hoo' hdo' ?_)
      rw [Array.getElem?_eq_getElem hlt]
      obtain ⟨kv, hkv⟩ : ∃ kv, more[x]? = some kv := ⟨more[x]'(by rw [hlen]; exact hlt), List.getElem?_eq_getElem _⟩
      obtain ⟨k, v⟩ := kv
      obtain ⟨hkey, hval⟩ := hpo.get? (e := eso[x]) (by simp [hlt]) hkv
      obtain ⟨k', hkey', hhash⟩ := hko eso[x] (Array.getElem_mem hlt)
      obtain rfl : k' = k := (mixKind prog w).inj _ _ _ hkey' hkey
      show wpAny _ _ (holding [eso[x].key, eso[x].val] (dictPut d eso[x].hash eso[x].key eso[x].val) >>= _) _ _ _
      rw [hhash, hval]
      have hmx : (merged kvs (more.take x)).length ≤ sizeLine := by
        have e1 := merged_length_le kvs (more.take x)
        have e2 : (more.take x).length ≤ more.length := by rw [List.length_take]; omega
        omega
      refine wpAny_bind (wpAny_holding (wp_dictPut hkey hd' (fun h'' hd'' hs'' => ?_) hmx))
      have hoo'' : h''.get? o = some oo := (hs''.2 o (Ne.symm hdo)).trans hoo'
      refine wpAny_bind (wpAny_dictEpoch hoo'' hdo' ?_)
      rw [if_neg (by simp)]
      exact wpAny_pure ⟨h'', x + 1, rfl, hrest, hlt, by rw [merged_take_succ kvs more x (k', v) hkv]; exact hd'', hoo'', hs'.trans hs''⟩
    · rintro b s' ⟨h', i, rfl, hr, hi, hd', hoo', hs'⟩
      have hin : i = eso.size := by
        rcases Nat.lt_or_ge i eso.size with h | h
        · have e : eso.size - i = (eso.size - (i + 1)) + 1 := by omega
          rw [e, List.range'_succ] at hr; exact nomatch hr
        · exact Nat.le_antisymm hi h
      refine wpAny_pure (hQ h' ?_ hs')
      rw [hin, ← hlen, List.take_length] at hd'; exact hd'
  by_cases hemp : esd.isEmpty = true
  · rw [if_pos hemp]
    refine wpAny_bind (wpAny_dictEntries hoo hdo' (wpAny_bind ?_))
    rw [← Array.forIn_toList]
    refine wpAny_forIn_list _ (fun rest _ s' => s' = s ∧ ∀ e ∈ rest, e ∈ eso.toList) _ ?_ ?_ _ _ ⟨rfl, fun _ h => h⟩
    · rintro e rest b s' ⟨rfl, hin⟩
      have he := hin e List.mem_cons_self
      obtain ⟨k, hk1, _⟩ := hko e (by simpa using he)
      cases hke : e.key with
      | ref z =>
        rw [hke] at hk1
        cases k <;> exact nomatch hk1
      | _ => exact wpAny_pure ⟨rfl, fun e' h' => hin e' (List.mem_cons_of_mem _ h')⟩
    · rintro b s' ⟨rfl, _⟩
      exact loop
  · rw [if_neg hemp]
    exact loop

theorem wp_dstar {tm : Sem Value} {tk tv : Sem Value} {Q : Value → Shared → Prop}
    (h : wpAny (model prog w) A tm (fun m s1 => wpAny (model prog w) A (mergeMapping s.heap.objs.size m false) (fun _ s2 => wpAny (model prog w) A (subDict [(tk, tv)]) (fun sub s3 => wpAny (model prog w) A (mergeMapping s.heap.objs.size (.ref sub) false) (fun _ s4 => Q (.ref s.heap.objs.size) s4) (fun _ _ => False) s3) E s2) (fun _ _ => False) s1) E
      { s with heap := s.heap.push { cls := .type "dict", data := .dict #[] } }) : wpAny (model prog w) A (dictDisplay [(none, tm), (some tk, tv)]) Q E s := by
  unfold dictDisplay
  dsimp only
  rw [List.forIn_cons]
  dsimp only
  refine wpAny_bind (wpAny_bind (wpAny_bind ?_))
  rw [if_pos (show ([] : List (Sem Value × Sem Value)).isEmpty = true from rfl)]
  refine wpAny_pure ?_
  dsimp only
  refine wpAny_bind (wpAny_alloc ?_)
  refine wpAny_bind (wpAny_holding (wpAny_mono h (fun m s1 h1 => ?_) fun _ _ x => x))
  refine wpAny_bind (wpAny_onRaise (wpAny_tryCatch (wpAny_onRaise (wpAny_holding (wpAny_mono h1 (fun _ s2 h2 => ?_) fun _ _ x => x.elim)))))
  refine wpAny_pure (wpAny_pure ?_)
  dsimp only
  refine wpAny_bind ?_
  rw [if_neg (show ¬ ([] ++ [(tk, tv)] : List (Sem Value × Sem Value)).isEmpty = true from by simp)]
  refine wpAny_bind (wpAny_holding (wpAny_mono h2 (fun sub s3 h3 => ?_) fun _ _ x => x))
  refine wpAny_bind (wpAny_onRaise (wpAny_holding (wpAny_mono h3 (fun _ s4 h4 => ?_) fun _ _ x => x.elim)))
  exact wpAny_pure (wpAny_pure h4)

theorem wp_dstar2 {tm tn : Sem Value} {Q : Value → Shared → Prop}
    (h : wpAny (model prog w) A tm (fun m s1 => wpAny (model prog w) A (mergeMapping s.heap.objs.size m false) (fun _ s2 => wpAny (model prog w) A tn (fun n s3 => wpAny (model prog w) A (mergeMapping s.heap.objs.size n false) (fun _ s4 => Q (.ref s.heap.objs.size) s4) (fun _ _ => False) s3) E s2) (fun _ _ => False) s1) E
      { s with heap := s.heap.push { cls := .type "dict", data := .dict #[] } }) : wpAny (model prog w) A (dictDisplay [(none, tm), (none, tn)]) Q E s := by
  unfold dictDisplay
  dsimp only
  rw [List.forIn_cons]
  dsimp only
  refine wpAny_bind (wpAny_bind (wpAny_bind ?_))
  rw [if_pos (show ([] : List (Sem Value × Sem Value)).isEmpty = true from rfl)]
  refine wpAny_pure ?_
  dsimp only
  refine wpAny_bind (wpAny_alloc ?_)
  refine wpAny_bind (wpAny_holding (wpAny_mono h (fun m s1 h1 => ?_) fun _ _ x => x))
  refine wpAny_bind (wpAny_onRaise (wpAny_tryCatch (wpAny_onRaise (wpAny_holding (wpAny_mono h1 (fun _ s2 h2 => ?_) fun _ _ x => x.elim)))))
  refine wpAny_pure ?_
  dsimp only
  rw [List.forIn_cons]
  dsimp only
  refine wpAny_bind (wpAny_bind ?_)
  rw [if_pos (show ([] : List (Sem Value × Sem Value)).isEmpty = true from rfl)]
  refine wpAny_pure ?_
  dsimp only
  refine wpAny_bind (wpAny_pure ?_)
  refine wpAny_bind (wpAny_holding (wpAny_mono h2 (fun n s3 h3 => ?_) fun _ _ x => x))
  refine wpAny_bind (wpAny_onRaise (wpAny_tryCatch (wpAny_onRaise (wpAny_holding (wpAny_mono h3 (fun _ s4 h4 => ?_) fun _ _ x => x.elim)))))
  refine wpAny_pure ?_
  dsimp only
  refine wpAny_pure ?_
  dsimp only
  refine wpAny_bind ?_
  rw [if_pos (show ([] : List (Sem Value × Sem Value)).isEmpty = true from rfl)]
  exact wpAny_pure (wpAny_pure h4)
end
def mergeP (kvs more : List (PV × PV)) : List (PV × PV) := more.foldl (fun acc p => dputP acc p.1 p.2) kvs
theorem relDk_merge {K : PySem.W.Frag} {ρ : Rho} {H : Hp} {more : List (PV × PV)} {ws2 : List (Key × V)} (r2 : RelDk K ρ H more ws2) : ∀ {kvs : List (PV × PV)} {ws : List (Key × V)}, RelDk K ρ H kvs ws → RelDk K ρ H (mergeP kvs more) (mergeK ws ws2) := by
  induction r2 with
  | nil => exact fun r => r
  | cons hk h _ ih => exact fun r => ih (relDk_put r hk h)
/-- {**e, k: v} -/
def mDstar1 (fe fk fv : ME) : ME := fun σ st => (fe σ (st.add (.dct [] false))).bind fun x st1 => match keysD x st1 with
  | some kvs => if x ≠ .ref st.nx ∧ st1.get st.nx = some (.dct [] false) then
      (fk σ ((st1.set st.nx (.dct kvs false)).add (.dct [] false))).bind fun y st3 => (fv σ st3).bind fun z st4 =>
        if kindK y = some false ∧ st4.get st1.nx = some (.dct [] false) ∧ st4.get st.nx = some (.dct kvs false) ∧ sz (kvs.length + 1) = true ∧ kfit kvs false y = true then .ok (.ref st.nx) ((st4.set st1.nx (.dct [(y, z)] false)).set st.nx (.dct (dputP kvs y z) false)) else .stuck
    else .stuck
  | none => .stuck
/-- {**e, **f} -/
def mDstar2 (fe fk : ME) : ME := fun σ st => (fe σ (st.add (.dct [] false))).bind fun x st1 => match keysD x st1 with
  | some kvs => if x ≠ .ref st.nx ∧ st1.get st.nx = some (.dct [] false) then
      (fk σ (st1.set st.nx (.dct kvs false))).bind fun y st3 => match keysD y st3 with
        | some more => if y ≠ .ref st.nx ∧ st3.get st.nx = some (.dct kvs false) ∧ sz (kvs.length + more.length) = true ∧ kvs.all (fun p => (keyK p.1).isSome) = true then .ok (.ref st.nx) (st3.set st.nx (.dct (mergeP kvs more) false)) else .stuck
        | none => .stuck
    else .stuck
  | none => .stuck
section
variable {X : Cx} {cl : CT} {W : WX} {pins : List (Addr × Obj)} {σ : L2.St} {H : Hp} {s : Shared} {ρ : Rho} {st : Sto}
/-- an empty dict just laid, tracked -/
theorem laid_dict (I : Inv X pins σ H s) (S : Sim X.K cl ρ st H) : H s.heap.objs.size = none ∧ Inv X pins σ (upd H s.heap.objs.size (.dK [])) { s with heap := s.heap.push { cls := .type "dict", data := .dict #[] } } ∧
    Sim X.K cl (ρ.put st.nx s.heap.objs.size) (st.add (.dct [] false)) (upd H s.heap.objs.size (.dK [])) := by
  have hn := I.hok.fresh (Nat.le_refl s.heap.objs.size)
  refine ⟨hn, I.laid (a := s.heap.objs.size) (o := .dK []) (h' := s.heap.push { cls := .type "dict", data := .dict #[] }) (t' := s.toks) (fun _ _ q => Heap.get?_push_of_some _ q) (Nat.le_refl _) (dk_empty s.heap I.big), S.new hn ⟨_, .inl ⟨[], rfl, .nil⟩, ?_⟩⟩
  rw [if_neg Bool.false_ne_true]; exact upd_same
/-- an unlocked dict with plain keys -/
theorem own_dk {n : Nat} {a : Addr} {kvs : List (PV × PV)} (S : Sim X.K cl ρ st H) (hr : ρ n = some a) (e : st.get n = some (.dct kvs false)) (hk : ∀ p r, kvs = p :: r → kindK p.1 = some false) : ∃ ws, H a = some (.dK ws) ∧ RelDk X.K ρ H kvs ws := by
  obtain ⟨u, rd, q⟩ := S.at_ hr e
  rw [if_neg Bool.false_ne_true] at q
  obtain ⟨ws, rfl, r⟩ := fit_k rd hk
  exact ⟨ws, q, r⟩
theorem kind_of_all {kvs : List (PV × PV)} (h : kvs.all (fun p => (keyK p.1).isSome) = true) : ∀ p r, kvs = p :: r → kindK p.1 = some false := fun p r e => by
  subst e
  rw [List.all_cons, Bool.and_eq_true] at h
  obtain ⟨k, hk⟩ := Option.isSome_iff_exists.mp h.1
  obtain ⟨a, b⟩ := p
  cases a <;> first | rfl | cases hk
theorem keysD_some {x : PV} {kvs : List (PV × PV)} (h : keysD x st = some kvs) : ∃ n lk, x = .ref n ∧ st.get n = some (.dct kvs lk) ∧ kvs.all (fun p => (keyK p.1).isSome) = true := by
  unfold keysD at h
  split at h
  · split at h
    · next eq =>
      split at h
      · next hk => cases h; exact ⟨_, _, rfl, eq, hk⟩
      · cases h
    · cases h
  · cases h
/-- a dict written over -/
theorem dk_over {n : Nat} {d : Addr} {ws ws' : List (Key × V)} {kvs' : List (PV × PV)} (S : Sim X.K cl ρ st H) (hr : ρ n = some d) (q : H d = some (.dK ws)) (r : RelDk X.K ρ H kvs' ws') : Ext X.K H (upd H d (.dK ws')) ∧ Sim X.K cl ρ (st.set n (.dct kvs' false)) (upd H d (.dK ws')) := by
  have ex : Ext X.K H (upd H d (.dK ws')) := Ext.write q trivial
  refine ⟨ex, S.write hr q trivial ⟨_, .inl ⟨ws', rfl, r.monoW (Le.refl _) ex.w⟩, ?_⟩⟩
  rw [if_neg Bool.false_ne_true]; exact upd_same
variable {e e2 k v : Expr} {fe fk fv : ME} {pos : Pos}
/-- the first clause: **e merged into the new dict -/
theorem dstar_first {m : Value} {n : Nat} {d : Addr} {x : PV} {w : V} {kvs : List (PV × PV)} {Q : Unit → Shared → Prop} (I : Inv X pins σ H s) (S : Sim X.K cl ρ st H) (hr : ρ n = some d) (hd : st.get n = some (.dct [] false)) (rx : RelP X.K ρ H x w) (rw' : RelV w m) (hk : keysD x st = some kvs) (hx : x ≠ .ref n)
    (h : ∀ h' ws, Inv X pins σ (upd H d (.dK ws)) { s with heap := h' } → Ext X.K H (upd H d (.dK ws)) → Sim X.K cl ρ (st.set n (.dct kvs false)) (upd H d (.dK ws)) → Q () { s with heap := h' }) :
    wpAny (model X.prog X.w) X.A (mergeMapping d m false) Q (fun _ _ => False) s := by
  obtain ⟨a, ws, rfl, q, r⟩ := keysD_at S rx hk
  obtain ⟨n2, lk, rfl, eg, hka⟩ := keysD_some hk
  obtain rfl : m = Value.ref a := rw'
  have hra : ρ n2 = some a := by cases rx with | ref z => exact z
  have hda : d ≠ a := fun z => hx (by rw [S.inj n2 n a hra (z ▸ hr)])
  obtain ⟨ws0, q0, r0⟩ := own_dk S hr hd (fun p r e => nomatch e)
  cases r0
  obtain ⟨z, hS, vs, rel, dd⟩ := dk_rd I.hok q
  obtain ⟨_, hS0, vs0, rel0, dd0⟩ := dk_of I.hok q0
  cases rel0
  have hno : (vs.map (·.1)).Nodup := let ⟨_, _, _, _, _, _, _, _, hn⟩ := dd; hn
  refine wp_merge hda hS dd0 dd (fun h' dd' hs => ?_) (by rw [List.length_nil, ← rel.length]; omega)
  rw [merged_nil_of_nodup vs hno] at dd'
  have he : ∃ q, h'.get? d = some q := let ⟨q, _, _, hq, _⟩ := dd'; ⟨q, hq⟩
  obtain ⟨ex, S2⟩ := dk_over S hr q0 r
  exact h h' ws (d_write (t' := s.toks) I (by rw [q0]; exact True.intro) hs he (dk_new z hS0 rel dd')) ex S2
theorem me_dstar2 (he : PE X e (tM X.K cl W fe)) (he2 : PE X e2 (tM X.K cl W fk)) : PE X (.Dict [none, none] [e, e2] pos) (tM X.K cl W (mDstar2 fe fk)) := by
  refine ⟨fun pins s σ H Q I ⟨ρ, st, σp, S, rs, h⟩ => ?_⟩
  show wpAny _ _ (do standAt pos; dictDisplay [(none, do let x ← eval e X.env; standAt pos; pure x), (none, do let x ← eval e2 X.env; standAt pos; pure x)]) _ _ _
  refine wpAny_bind (wpAny_standAt (wp_dstar2 ?_))
  obtain ⟨hn, I1, S1⟩ := laid_dict I S
  have hD : (ρ.put st.nx s.heap.objs.size) st.nx = some s.heap.objs.size := Rho.put_same
  have rs1 := rs.mono (S.le_put s.heap.objs.size) (Ext.new (K := X.K) (o := .dK []) hn)
  have h0 := Res.post.imp (Res.post.bind (Res.post.mono h (S.le_put s.heap.objs.size) (Ext.new (o := .dK []) hn))) (fun x st1 ρ1 H1 l1 e1 S1' h1 => (⟨l1 _ _ hD, h1⟩ : ρ1 st.nx = some s.heap.objs.size ∧ _)) fun _ _ _ z => z
  refine wpAny_bind (thn (he.run pins _ σ _ _ I1 (tM.beh S1 rs1 h0)) fun m s1 ⟨w, H1, I2, r1, ρ1, st1, x, S2, rs2, rx, hD1, h1⟩ => wpAny_bind (wpAny_standAt (wpAny_pure ?_)))
  split at h1
  · next kvs ek =>
    split at h1
    · next hc =>
      refine wpAny_mono (dstar_first I2 S2 hD1 hc.2 rx r1 ek hc.1 fun h' ws I3 ex S3 => ?_) (fun _ _ z => z) fun _ _ z => z
      have h3 := Res.post.imp (Res.post.bind (Res.post.mono h1 (Le.refl _) ex)) (fun x st1 ρ2 H1 l1 e1 S1' h1 => (⟨l1 _ _ hD1, h1⟩ : ρ2 st.nx = some s.heap.objs.size ∧ _)) fun _ _ _ z => z
      refine wpAny_bind (thn (he2.run pins _ σ _ _ I3 (tM.beh S3 (rs2.mono (Le.refl _) ex) h3)) fun n s3 ⟨w2, H3, I4, r2, ρ3, st3, y, S4, rs4, ry, hD3, h4⟩ => wpAny_bind (wpAny_standAt (wpAny_pure ?_)))
      split at h4
      · next more em =>
        split at h4
        · next hc2 =>
          obtain ⟨hy, hg, hz, hka⟩ := hc2
          obtain ⟨a, ws2, rfl, q, r⟩ := keysD_at S4 ry em
          obtain ⟨n2, lk, rfl, eg, hka2⟩ := keysD_some em
          obtain rfl : n = Value.ref a := r2
          have hra : ρ3 n2 = some a := by cases ry with | ref z => exact z
          have hda : s.heap.objs.size ≠ a := fun z => hy (by rw [S4.inj n2 st.nx a hra (z ▸ hD3)])
          obtain ⟨ws3, q3, r3⟩ := own_dk S4 hD3 hg (kind_of_all hka)
          obtain ⟨z, hS, vs, rel, dd⟩ := dk_rd I4.hok q
          obtain ⟨z0, hS0, vs0, rel0, dd0⟩ := dk_of I4.hok q3
          have hz := sz_ok hz
          have l1 := r.length
          have l2 := r3.length
          have l3 := rel.length
          have l4 := rel0.length
          refine wp_merge hda hS dd0 dd (fun h'' dd' hs => ?_) (by omega)
          have he : ∃ q, h''.get? s.heap.objs.size = some q := let ⟨q, _, _, hq, _⟩ := dd'; ⟨q, hq⟩
          obtain ⟨ex2, S5⟩ := dk_over S4 hD3 q3 (relDk_merge r r3)
          have l5 := length_mergeK ws2 ws3
          exact ⟨.ref _, _, d_write (t' := s3.toks) I4 (by rw [q3]; exact True.intro) hs he (dk_new (by omega) hS0 (rel.merge rel0) dd'), rfl, h4 ρ3 _ (Le.refl _) ex2 S5 _ (.ref hD3)⟩
        · exact h4.elim
      · exact h4.elim
    · exact h1.elim
  · exact h1.elim
theorem me_dstar1 (he : PE X e (tM X.K cl W fe)) (hk : PE X k (tM X.K cl W fk)) (hv : PE X v (tM X.K cl W fv)) : PE X (.Dict [none, some k] [e, v] pos) (tM X.K cl W (mDstar1 fe fk fv)) := by
  refine ⟨fun pins s σ H Q I ⟨ρ, st, σp, S, rs, h⟩ => ?_⟩
  show wpAny _ _ (do standAt pos; dictDisplay [(none, do let x ← eval e X.env; standAt pos; pure x), (some (eval k X.env), do let x ← eval v X.env; standAt pos; pure x)]) _ _ _
  refine wpAny_bind (wpAny_standAt (wp_dstar ?_))
  obtain ⟨hn, I1, S1⟩ := laid_dict I S
  have hD : (ρ.put st.nx s.heap.objs.size) st.nx = some s.heap.objs.size := Rho.put_same
  have rs1 := rs.mono (S.le_put s.heap.objs.size) (Ext.new (K := X.K) (o := .dK []) hn)
  have h0 := Res.post.imp (Res.post.bind (Res.post.mono h (S.le_put s.heap.objs.size) (Ext.new (o := .dK []) hn))) (fun x st1 ρ1 H1 l1 e1 S1' h1 => (⟨l1 _ _ hD, h1⟩ : ρ1 st.nx = some s.heap.objs.size ∧ _)) fun _ _ _ z => z
  refine wpAny_bind (thn (he.run pins _ σ _ _ I1 (tM.beh S1 rs1 h0)) fun m s1 ⟨w, H1, I2, r1, ρ1, st1, x, S2, rs2, rx, hD1, h1⟩ => wpAny_bind (wpAny_standAt (wpAny_pure ?_)))
  split at h1
  · next kvs ek =>
    split at h1
    · next hc =>
      refine wpAny_mono (dstar_first I2 S2 hD1 hc.2 rx r1 ek hc.1 fun h' ws I3 ex S3 => ?_) (fun _ _ z => z) fun _ _ z => z
      obtain ⟨hn2, I4, S4⟩ := laid_dict I3 S3
      have hE : (ρ1.put (st1.set st.nx (.dct kvs false)).nx h'.objs.size) (st1.set st.nx (.dct kvs false)).nx = some h'.objs.size := Rho.put_same
      have hE : (ρ1.put (st1.set st.nx (.dct kvs false)).nx h'.objs.size) st1.nx = some h'.objs.size := by
        rw [Sto.nx_set] at hE ⊢; exact hE
      have leE := S3.le_put h'.objs.size
      have exE : Ext X.K (upd H1 s.heap.objs.size (.dK ws)) _ := Ext.new (o := .dK []) hn2
      have h3 := Res.post.imp (Res.post.bind (Res.post.mono (Res.post.mono h1 (Le.refl _) ex) leE exE)) (fun x st4 ρ2 H2 l1 e1 S1' h1 => (⟨l1 _ _ (leE _ _ hD1), l1 _ _ hE, h1⟩ : ρ2 st.nx = some s.heap.objs.size ∧ ρ2 st1.nx = some h'.objs.size ∧ _)) fun _ _ _ z => z
      refine wpAny_subDict (knd := mixKind X.prog X.w) (show 1 ≤ 15 by decide) (evalPairs_cons ?_)
      refine thn (hk.run pins _ σ _ _ I4 (tM.beh S4 ((rs2.mono (Le.refl _) ex).mono leE exE) h3)) fun ku s4 ⟨w2, H4, I5, r2, ρ4, st4, y, S5, rs5, ry, hD4, hE4, h4⟩ => ?_
      have h5 := Res.post.imp (Res.post.bind h4) (fun x st5 ρ2 H2 l1 e1 S1' h1 => (⟨l1 _ _ hD4, l1 _ _ hE4, ry.mono l1 e1, h1⟩ : ρ2 st.nx = some s.heap.objs.size ∧ ρ2 st1.nx = some h'.objs.size ∧ RelP X.K ρ2 H2 y w2 ∧ _)) fun _ _ _ z => z
      refine wpAny_bind (thn (hv.run pins _ σ _ _ I5 (tM.beh S5 rs5 h5)) fun vu s5 ⟨w3, H5, I6, r3, ρ5, st5, z, S6, rs6, rz, hD5, hE5, ry5, h6⟩ => wpAny_bind (wpAny_standAt (wpAny_pure (evalPairs_nil ?_))))
      split at h6
      · next hc2 =>
        obtain ⟨hky, hgE, hgD, hz, hfit⟩ := hc2
        obtain ⟨kx, ekx⟩ := kindK_f hky
        obtain rfl := keyK_val ekx ry5
        obtain ⟨ws0, q0, r0⟩ := own_dk S6 hE5 hgE (fun p r e => nomatch e)
        cases r0
        obtain ⟨_, hSE, vs0, rel0, dd0⟩ := dk_of I6.hok q0
        cases rel0
        refine ⟨[(kx, vu)], ⟨kV_is r2, rfl, True.intro⟩, dd0, fun h7 dd7 hs7 => ?_⟩
        -- the small dict is filled
        have he7 : ∃ q, h7.get? h'.objs.size = some q := let ⟨q, _, _, hq, _⟩ := dd7; ⟨q, hq⟩
        have relE : KV [(kx, w3)] (merged [] [(kx, vu)]) := .cons ⟨rfl, r3⟩ .nil
        have I7 : Inv X pins σ (upd H5 h'.objs.size (.dK [(kx, w3)])) { s5 with heap := h7, toks := s5.toks + 1 } := d_write I6 (by rw [q0]; exact True.intro) hs7 he7 (dk_new (by show 1 ≤ sizeLine; decide) hSE relE dd7)
        obtain ⟨ex7, S7⟩ := dk_over S6 hE5 q0 (RelDk.cons ekx rz .nil)
        -- and merged
        have hED : st.nx ≠ st1.nx := fun e => Nat.lt_irrefl _ (e ▸ S2.dom _ _ hD1 : st1.nx < st1.nx)
        have hgD7 : (st5.set st1.nx (.dct [(y, z)] false)).get st.nx = some (.dct kvs false) := by rw [Sto.get_set, if_neg hED]; exact hgD
        have hkk : ∀ p r, kvs = p :: r → kindK p.1 = some false := by
          rcases kfit_k hfit with ⟨_, kk⟩ | ⟨kt, _⟩
          · exact kk
          · rw [hky] at kt; cases kt
        obtain ⟨ws3, q3, rr3⟩ := own_dk S7 hD5 hgD7 hkk
        have hneq : s.heap.objs.size ≠ h'.objs.size := fun e => hED (S6.inj _ _ _ hD5 (e ▸ hE5))
        obtain ⟨z3, hS3, vs3, rel3, dd3⟩ := dk_of I7.hok q3
        have hz := sz_ok hz
        have l1 := rr3.length
        have l3 := rel3.length
        have dE : Heap.DictOf (mixKind X.prog X.w) h7 h'.objs.size [(kx, vu)] := dd7
        refine wp_merge (kvs := vs3) (more := [(kx, vu)]) hneq hSE dd3 dE (fun h8 dd8 hs8 => ?_) (by show vs3.length + 1 ≤ sizeLine; omega)
        have he8 : ∃ q, h8.get? s.heap.objs.size = some q := let ⟨q, _, _, hq, _⟩ := dd8; ⟨q, hq⟩
        have l5 := length_putK ws3 kx w3
        obtain ⟨ex8, S8⟩ := dk_over S7 hD5 q3 (relDk_put rr3 ekx (rz.mono (Le.refl _) ex7))
        exact ⟨.ref _, _, d_write (t' := s5.toks + 1) I7 (by rw [q3]; exact True.intro) hs8 he8 (dk_new (by omega) hS3 (rel3.put kx r3) dd8), rfl, h6 ρ5 _ (Le.refl _) (ex7.trans ex8) S8 _ (.ref hD5)⟩
      · exact h6.elim
    · exact h1.elim
  · exact h1.elim
end
end MP
set_option Elab.async false
set_option linter.all false
set_option maxRecDepth 100000
set_option maxHeartbeats 2000000
namespace MP
open PySem PySem.Spec L2
/-- what the class above the own exceptions must be for C0.__init__(self, ..) -/
structure PIni (K : PySem.W.Frag) (C : Addr) : Prop where
  hg : PySem.W.specialIn K (.ref C) "__getattribute__" = some (some (.builtin "type.__getattribute__"))
  hr : PySem.W.readsIn K C (.type "type") = true
  e : PySem.W.findCls K (.ref C) (.type "type") "__init__" = some (.val (.builtin "ValueError.__init__"))
section
variable {X : Cx} {cl : CT} {W : WX} {e : Expr} {es : List Expr} {ta : TA} {p p1 p2 pos pos' : Pos} {x : Str} {C C0 : Addr}
theorem pe_pinit {pl : Sem Bool} (hg : Gl X x) (hm : X.mg x = some (.ref C0)) (P : PIni X.K C0) (ha : PA X (e :: es) ta) (hdb : (x == ("__debug__" : Str)) = false := by decide)
    (hc : eval (.Call (.Attribute (.Name x p1) "__init__" p2) (e :: es) [] pos) X.env = (do
      let ov ← eval (.Name x p1) X.env
      standAt p2.atName
      let (f, first) ← holding [ov] (getMethod ov "__init__" pl)
      callWith pos f first (backTo pos (starEach (e :: es) X.env)) (backToKw pos (keywordEach [] X.env))) := by rfl)
    (he : starEach (e :: es) X.env = (false, eval e X.env) :: starEach es X.env := by rfl) (hpl : (backTo pos (starEach es X.env)).any (·.1) = false := by rfl) :
    PE X (.Call (.Attribute (.Name x p1) "__init__" p2) (e :: es) [] pos) (tVeI X.K ta) := by
  refine ⟨fun pins s σ H Q I h => ?_⟩
  refine PySem.W.methodCall_KW (ld_glob I hg hm ?_ hdb) hc
  refine PySem.W.method_cls I.kIn P.hg (PySem.W.cls_value I.kIn P.hr P.e (by decide +kernel) ?_)
  show wpAny _ _ (callWith pos (Value.builtin "ValueError.__init__") [] (backTo pos (starEach (e :: es) X.env)) []) _ _ _
  refine PyProof.Rows.callWith_method1 (thn (ha.run pos pins _ σ H _ (I.tok _) h) fun us s1 ⟨vs, H1, I1, r1, a, C, ws, ev, hl, T, ea, q⟩ => ?_) he hpl
  subst ev
  cases r1 with
  | @cons _ u0 _ ur ra rw' =>
    obtain rfl : u0 = Value.ref a := ra
    have hlen : ur.length ≤ sizeLine := by
      rw [← Paired.length rw', sizeLine_eq]
      omega
    exact oinit_ok T I1 ea hlen fun s' J => ⟨.non, H1, J, rfl, q⟩
/-- what an own exception's __init__(self, part) does: one attribute is set -/
def spXi (C : Addr) (f : Str) : Sp := fun vs H Q _ => ∃ (a : Addr) (v : V), vs = [.ref a, v] ∧ H a = some (exo a C none) ∧ ∀ dx, H dx = none → dx ≠ a → Q .non (upd (upd H dx (exd dx [(f, v)])) a (exo a C (some dx)))
/-- an own exception class -/
structure ExC (X : Cx) (cl : CT) (c : Nat) (f : Str) : Prop where
  oex : OexC X.K (cl.ad c)
  fn : ∃ (fI : Addr) (k : Nat) (fd : FuncData) (ps : List Str), PySem.W.findIn X.K (.ref (cl.ad c)) "__init__" = some (some (.ref fI)) ∧ PySem.W.typeIn X.K (.ref fI) = some (.type "function") ∧
    FnOk X.prog X.w X.K X.mg X.base CX0 k fI fd ps (spXi (cl.ad c) f) ∧ Room (k + 1) X.A ∧ Binds X.K fd ps []
def sRaise1 (c : Nat) (f : Str) (fe : ME) : MS := fun σ st => (fe σ st).toS σ fun v st1 => .err ⟨c, [(f, v)]⟩ σ st1
theorem pass0' {E : XK} : Passes CX0 X E := fun _ _ _ _ _ _ _ h => h.elim
theorem ms_raise1 {c : Nat} {f : Str} {fe : ME} (hc : X.calm = true) (tk : Takes X W) (T : ExC X cl c f) (hg : Gl X x) (hm : X.mg x = some (.ref (cl.ad c))) (he : PE X e (tM X.K cl W fe)) (hdb : (x == ("__debug__" : Str)) = false := by decide)
    (hs : starEach [e] X.env = (false, eval e X.env) :: starEach [] X.env := by rfl) (hpl : (backTo pos (starEach [] X.env)).any (·.1) = false := by rfl) :
    PS X (.Raise (some (.Call (.Name x p) [e] [] pos)) none pos') (tMS X.K cl W (sRaise1 c f fe)) := by
  obtain ⟨oex, fI, k, fd, ps, h1, h2, F, hr, hb⟩ := T
  refine (ps_raise hc tk (pmk_oex (ds := []) (dvs := []) oex h1 h2 F hr hb .nil pass0' hg hm (pa_cons he pa_nil hs) hdb hs hpl)).imp fun D σ H ⟨ρ, st, σp, S, rs, h⟩ => ?_
  refine ⟨ρ, st, σp, S, rs, Res.post.imp (toS_post rs h) (fun v st1 ρ1 H1 l1 e1 S1 h1 w rw' => ?_) fun _ _ _ z => z⟩
  refine ⟨by show 1 ≤ 1000; decide, fun a ha => ⟨a, w, rfl, upd_same, fun dx hdx hne => ⟨rfl, dx, [(f, w)], upd_same, ?_, ?_, ?_⟩⟩⟩
  · rw [upd_ne hne, upd_same]
  · rw [upd_ne hne] at hdx; exact hdx
  · rw [upd_ne hne] at hdx
    have eH : upd (del (upd (upd (upd H1 a (exo a (cl.ad c) none)) dx (exd dx [(f, w)])) a (exo a (cl.ad c) (some dx))) a) dx (.xd [(f, w)]) = upd H1 dx (.xd [(f, w)]) := by
      funext b
      by_cases e1 : b = dx
      · rw [e1, upd_same, upd_same]
      · rw [upd_ne e1, upd_ne e1]
        by_cases e2 : b = a
        · rw [e2, del_same, ha]
        · rw [del_ne e2, upd_ne e2, upd_ne e1, upd_ne e2]
    rw [eH]
    have ex : Ext X.K H1 (upd H1 dx (.xd [(f, w)])) := Ext.new hdx
    exact h1 ρ1 _ _ _ σ (Le.refl _) ex (S1.plus hdx) ((rs.mono l1 e1).mono (Le.refl _) ex) ⟨rfl, .inr ⟨dx, _, rfl, upd_same, .cons (rw'.mono (Le.refl _) ex) .nil⟩⟩
/-- raise C('text'), C without own __init__ -/
def sRaise0 (c : Nat) : MS := fun σ st => .err ⟨c, []⟩ σ st
theorem ms_raise0 {c : Nat} {m : Str} {j : Nat} {newId initId B : String} {bmB : List Value} (hc : X.calm = true) (tk : Takes X W) (F : ExcBaseFacts B newId initId bmB) (q : PySem.W.excIn X.K (cl.ad c) bmB newId = true) (hm : X.mg x = some (.ref (cl.ad c))) (kC : PySem.W.keepIn X.K (.ref (cl.ad c)) = true) (r : Raises X (.ref (cl.ad c))) (hg : Gl X x)
    (hdb : (x == ("__debug__" : Str)) = false := by decide) : PS X (.Raise (some (.Call (.Name x p) [.Constant (.str m) j p2] [] pos)) none pos') (tMS X.K cl W (sRaise0 c)) :=
  (ps_raise hc tk (pmk_own F q hm kC r hg hdb)).imp fun D σ H ⟨ρ, st, σp, S, rs, h⟩ => h ρ H _ _ σ (Le.refl _) (Ext.refl _) S rs ⟨rfl, .inl ⟨rfl, rfl⟩⟩
end

/-- how a clause's suite ends for its slot -/
def offI (D : Ends) (oi : Option Nat) : Ends := match oi with
  | none => D
  | some i => { nx := fun σ H => D.nx (σ.set i none) H, rt := D.rt, bk := fun σ H => D.bk (σ.set i none) H, ct := fun σ H => D.ct (σ.set i none) H }
def onI (σ : L2.St) (oi : Option Nat) (a : Addr) : L2.St := match oi with
  | none => σ
  | some i => σ.set i (some (.ref a))
abbrev Hd := Value × Option Nat × (Addr → Value → Option Addr → TS)
def wMix (K : PySem.W.Frag) (Wout : WX) (D : Ends) : List Hd → WX
  | [] => Wout
  | (c, oi, ts) :: r => fun cls d σ H => ∃ b, PySem.W.exmOne K cls c = some b ∧ (b = true → ∀ a, H a = none → ts a cls d (offI D oi) (onI σ oi a) H) ∧ (b = false → wMix K Wout D r cls d σ H)
/-- .. where there are as many slots as names -/
def wLen (X : Cx) (Wout : WX) (D : Ends) (l : List Hd) : WX := fun cls d σ H => σ.length = X.N.length → wMix X.K Wout D l cls d σ H
inductive HdsX (X : Cx) : List ExceptHandler → List Hd → Prop
  | nil : HdsX X [] []
  | one {x : Str} {c : Value} {ts : Addr → Value → Option Addr → TS} {b₀ : Stmt} {suite : List Stmt} {np pos' : Pos} {hds : List ExceptHandler} {l : List Hd} (hc : Names X x c)
      (hsu : ∀ (a : Addr) (oe : Obj) (cls : Value) (d : Option Addr) (pn : List (Addr × Obj)), Zc cls d oe → (∃ vs, oe.data = .fields vs) → PSs (X.suite a ((a, oe) :: pn)) (b₀ :: suite) (ts a cls d)) (r : HdsX X hds l) :
      HdsX X (.ExceptHandler (some (.Name x np)) none (b₀ :: suite) pos' :: hds) ((c, none, ts) :: l)
  | as {x n : Str} {i : Nat} {c : Value} {ts : Addr → Value → Option Addr → TS} {b₀ : Stmt} {suite : List Stmt} {np pos' : Pos} {hds : List ExceptHandler} {l : List Hd} (hN : X.N.Nodup) (hi : X.N[i]? = some n) (hln : X.env.kindOf n = some .local) (hc : Names X x c)
      (hsu : ∀ (a : Addr) (oe : Obj) (cls : Value) (d : Option Addr) (pn : List (Addr × Obj)), Zc cls d oe → (∃ vs, oe.data = .fields vs) → PSs (X.suite a ((a, oe) :: pn)) (b₀ :: suite) (ts a cls d)) (r : HdsX X hds l) :
      HdsX X (.ExceptHandler (some (.Name x np)) (some n) (b₀ :: suite) pos' :: hds) ((c, some i, ts) :: l)
section
variable {X : Cx} {body : List Stmt} {h₀ : ExceptHandler} {hds : List ExceptHandler} {l : List Hd} {pos : Pos} {tb : WX → TS} {Wout : WX}
theorem ps_try_mix (hs : X.stack = X.env :: X.outer) (hf : X.env.frame = some X.env.locals) (tk : Takes X Wout)
    (hb : ∀ (W : WX) (pn : List (Addr × Obj)) (xe : Value → Shared → Prop), Takes (X.tr pn xe) W → PassesOwn (model X.prog X.w) X.A X.env xe → PSs (X.tr pn xe) body (tb W))
    (hh : HdsX X (h₀ :: hds) l) : PS X (.Try body (h₀ :: hds) [] [] pos) (fun D σ H => tb (wLen X Wout D l) D σ H) := by
  refine ⟨fun pins s σ H D I h => ?_⟩
  have ok := I.ok
  have hfr : X.A.frames = some (X.env :: X.outer) := by rw [ok.frames, hs]
  -- what is done with an exception of the body
  have catch_ : ∀ (u : Value) (s' : Shared), XE (X.tr (X.pn ++ pins) (fun e s₁ => wpAny (model X.prog X.w) X.A (noteFrame e X.env) (fun _ s₂ => wpAny (model X.prog X.w) X.A (setFlight e none) (fun _ s₃ =>
      wpAny (model X.prog X.w) X.A (handleBy e X.env (h₀ :: hds)) (SP X pins D) X.xe s₃) X.xe s₂) X.xe s₁)) (wLen X Wout D l) u s' → wpAny (model X.prog X.w) X.A (noteFrame u X.env) (fun _ s₂ => wpAny (model X.prog X.w) X.A (setFlight u none) (fun _ s₃ =>
      wpAny (model X.prog X.w) X.A (handleBy u X.env (h₀ :: hds)) (SP X pins D) X.xe s₃) X.xe s₂) X.xe s' := fun u s' xx => by
    obtain ⟨a, B, sI, pins', σ', H', cls, d, rfl, J', nb, up, sky, na, os, ag, w⟩ := xx
    have J : Inv X pins σ' H' sI := J'.ofTry ok
    have w := w J.len
    have sky' : Sky B (X.env :: X.outer) a (Zc cls d) X.env.locals s'.heap := by rw [← hs]; exact sky
    refine Sky.land Zc.steady hfr hf sky' fun h3 fl3 up3 => ?_
    have J3 : Inv X pins σ' H' { s' with heap := h3 } := J.landed nb fl3.1 (up.trans up3) os ag
    obtain ⟨oe3, vs3, he3, hz3, hd3⟩ := fl3.there
    have nfr : a ∉ frs (X.env :: X.outer) := fun hm => by
      obtain ⟨_, o', e', hnf⟩ := fl3.2.2.1.mem hm
      rw [he3] at e'; cases e'
      exact hnf _ hd3
    have nL : a ≠ X.env.locals := fun z => nfr (List.mem_filterMap.mpr ⟨X.env, List.mem_cons_self, by rw [hf, z]⟩)
    have nF : a ∉ X.fs := fun hm => by
      obtain ⟨e, he, q⟩ := List.mem_filterMap.mp hm
      exact nfr (List.mem_filterMap.mpr ⟨e, List.mem_cons_of_mem _ he, q⟩)
    have S3 := J3.suite he3 hd3 na nL nF
    have LT : PySem.W.Looks (model X.prog X.w) h3 (typeOf (.ref a)) cls := fun A Q E s k q => wpAny_typeOf_ref (k _ _ he3) (by rw [hz3.1]; exact q)
    have name : ∀ {x : Str} {c : Value} {np : Pos} {Q : Value → Shared → Prop} {E : Value → Shared → Prop}, Names X x c → Q c { s' with heap := h3 } → wpAny (model X.prog X.w) (X.A.mark (some (.ref a))) (eval (.Name x np) X.env) Q E { s' with heap := h3 } := fun {x c np Q E} hc q => by
      obtain ⟨hg, hdbg, hm | ⟨hm, hv, hnn⟩⟩ := hc
      · exact ld_glob (X := X.suite a ((a, oe3) :: (X.pn ++ pins))) S3 hg hm q hdbg
      · exact ld_blt (X := X.suite a ((a, oe3) :: (X.pn ++ pins))) S3 hg hm hv q hnn hdbg
    have go : ∀ {hds' : List ExceptHandler} {l' : List Hd}, HdsX X hds' l' → wMix X.K Wout D l' cls d σ' H' →
        wpAny (model X.prog X.w) X.A (handleBy (.ref a) X.env hds') (SP X pins D) X.xe { s' with heap := h3 } := by
      intro hds' l' hk
      induction hk with
      | nil =>
        intro w
        refine wpAny_handleBy_nil ?_
        obtain ⟨k1, k2, k3, oe, vs, T, oT, ts', he, hz, hd, h1, hr⟩ := id fl3
        unfold PySem.passOn
        refine wpAny_bind (wpAny_field he hd h1 ?_)
        rw [if_neg (show ¬ ((Value.ref T == Value.none) = true) from by simp)]
        have fin : wpAny (model X.prog X.w) X.A (setFlight (.ref a) X.env.frame) (fun _ s4 => wpAny (model X.prog X.w) X.A (throw (.ref a) : Sem Flow) (SP X pins D) X.xe s4) X.xe { s' with heap := h3 } := by
          rw [hf]
          refine HandSPX.setFlight_upZ fl3 fun h4 hh4 up4 => wpAny_throw (tk _ _ ?_)
          exact ⟨a, B, sI, pins, σ', H', cls, d, rfl, J, nb, (up.trans up3).trans up4, .inr (.inr (by rw [hs]; exact hh4)), na, os, ag, w⟩
        first
          | exact wpAny_bind (wpAny_pure (wpAny_bind fin))
          | exact wpAny_bind fin
      | one hc hsu r ih =>
        intro w
        obtain ⟨b, hb1, hyes, hno⟩ := w
        refine wpAny_handleBy_cons (codeAny_handlers_test (name hc ((PySem.W.exm_one (M := model X.prog X.w) (J3.kIn) LT hb1).here ?_))) (by intro q; cases q)
        cases b with
        | true =>
          refine codeAny_handlers_suite ?_
          refine HandSPX.lands_againZ fl3 fun h4 fl4 up4 => ?_
          have J4 : Inv X pins σ' H' { s' with heap := h4 } := J.landed nb fl4.1 ((up.trans up3).trans up4) os ag
          obtain ⟨oe4, vs4, he4, hz4, hd4⟩ := fl4.there
          have S4 := J4.suite he4 hd4 na nL nF
          refine wpAny_mono ((hsu a oe4 cls d (X.pn ++ pins) hz4 ⟨_, hd4⟩).run [] _ _ H' _ S4 (hyes rfl a na)) (fun f s6 hsp => ?_) (fun _ _ z => False.elim z)
          cases f with
          | ret u =>
            obtain ⟨v6, σ6, H6, S6, r6, q6⟩ := hsp
            exact ⟨_, _, _, S6.unsuite ok, r6, q6⟩
          | next => obtain ⟨σ6, H6, S6, q6⟩ := hsp; exact ⟨_, _, S6.unsuite ok, q6⟩
          | brk => obtain ⟨σ6, H6, S6, q6⟩ := hsp; exact ⟨_, _, S6.unsuite ok, q6⟩
          | cont => obtain ⟨σ6, H6, S6, q6⟩ := hsp; exact ⟨_, _, S6.unsuite ok, q6⟩
        | false => exact ih (hno rfl)
      | @as x n i c ts b₀ suite np pos' hds2 l2 hN hi hln hc hsu r ih =>
        intro w
        obtain ⟨b, hb1, hyes, hno⟩ := w
        refine wpAny_handleBy_cons (codeAny_handlers_test (name hc ((PySem.W.exm_one (M := model X.prog X.w) (J3.kIn) LT hb1).here ?_))) (by intro q; cases q)
        cases b with
        | true =>
          refine codeAny_handlers_suite_as ?_
          refine HandSPX.lands_againZ fl3 fun h4 fl4 up4 => ?_
          have J4 : Inv X pins σ' H' { s' with heap := h4 } := J.landed nb fl4.1 ((up.trans up3).trans up4) os ag
          obtain ⟨oe4, vs4, he4, hz4, hd4⟩ := fl4.there
          have S4 := J4.suite he4 hd4 na nL nF
          refine store_ok (X := X.suite a ((a, oe4) :: (X.pn ++ pins))) (v := .ref a) S4 hN hi (.inl hln) rfl (fun s5 S5 => ?_) (.inr hln)
          refine wpAny_mono ((hsu a oe4 cls d (X.pn ++ pins) hz4 ⟨_, hd4⟩).run [] s5 _ H' _ S5 (hyes rfl a na)) (fun f s6 hsp => ?_) (fun _ _ z => False.elim z)
          have end_ : ∀ {σ6 : L2.St} {H6 : Hp} {Q : Shared → Prop}, Inv (X.suite a ((a, oe4) :: (X.pn ++ pins))) [] σ6 H6 s6 → (∀ s7, Inv X pins (σ6.set i none) H6 s7 → Q s7) →
              wpAny (model X.prog X.w) X.A (do bindName X.env n .none; unbindBehindTheSuite X.env n pos') (fun _ s7 => Q s7) X.xe s6 := fun {σ6 H6 Q} S6 hq => gone_ok (S6.unsuite ok) hN hi hln hq
          cases f with
          | ret u =>
            obtain ⟨v6, σ6, H6, S6, r6, q6⟩ := hsp
            exact end_ S6 fun s7 J7 => ⟨_, _, _, J7, r6, q6⟩
          | next => obtain ⟨σ6, H6, S6, q6⟩ := hsp; exact end_ S6 fun s7 J7 => ⟨_, _, J7, q6⟩
          | brk => obtain ⟨σ6, H6, S6, q6⟩ := hsp; exact end_ S6 fun s7 J7 => ⟨_, _, J7, q6⟩
          | cont => obtain ⟨σ6, H6, S6, q6⟩ := hsp; exact end_ S6 fun s7 J7 => ⟨_, _, J7, q6⟩
        | false => exact ih (hno rfl)
    exact go hh w
  refine wpAny_Try_except ?_
  refine wpAny_mono ((hb (wLen X Wout D l) (X.pn ++ pins) _ (fun u s' xx => catch_ u s' xx) PassesOwn.looking).run [] s σ H D (I.toTry _) h) (fun f s1 hsp => ?_) (fun e s1 he => he)
  cases f with
  | next => obtain ⟨σ', H', J', q⟩ := hsp; exact wpAny_execs_nil ⟨σ', H', J'.ofTry ok, q⟩
  | brk => obtain ⟨σ', H', J', q⟩ := hsp; exact ⟨σ', H', J'.ofTry ok, q⟩
  | cont => obtain ⟨σ', H', J', q⟩ := hsp; exact ⟨σ', H', J'.ofTry ok, q⟩
  | ret u => obtain ⟨v, σ', H', J', r, q⟩ := hsp; exact ⟨v, σ', H', J'.ofTry ok, r, q⟩
end
end MP
set_option Elab.async false
set_option linter.all false
set_option maxRecDepth 100000
set_option maxHeartbeats 2000000
namespace MP
open PySem PySem.Spec L2
abbrev HdP := Nat × Option Nat × (Exn → MS)
def ResS.off (r : ResS) (oi : Option Nat) : ResS := match oi with
  | none => r
  | some i => match r with
    | .nx σ s => .nx (σ.set i none) s
    | .bk σ s => .bk (σ.set i none) s
    | .ct σ s => .ct (σ.set i none) s
    | r => r
def onP (σ : Sl) (oi : Option Nat) : Sl := match oi with
  | none => σ
  | some i => σ.set i none
def noErr (r : ResS) : ResS := match r with
  | .err _ _ _ => .stuck
  | r => r
def tryH (sub : Nat → Nat → Option Bool) : List HdP → Exn → MS
  | [], x, σ, st => .err x σ st
  | (c, oi, f) :: r, x, σ, st => match sub x.c c with
    | some true => (noErr (f x (onP σ oi) st)).off oi
    | some false => tryH sub r x σ st
    | none => .stuck
def sTry (sub : Nat → Nat → Option Bool) (b : MS) (hs : List HdP) : MS := fun σ st => match b σ st with
  | .err x σ1 s1 => tryH sub hs x σ1 s1
  | r => r
/-- a suite's reading: the exception is x, its object a, its class cls, its dict d -/
def tX (K : PySem.W.Frag) (cl : CT) (oi : Option Nat) (f : Exn → MS) : Addr → Value → Option Addr → TS := fun a cls d D σ H => ∃ ρ st σp x, Sim K cl ρ st H ∧ RelS K ρ H σp σ ∧ ExnRel K cl ρ H x cls d ∧ (∀ i, oi = some i → i < σ.length → σ[i]? = some (some (.ref a))) ∧ (noErr (f x σp st)).post K cl ρ H D W0
def hdsV (K : PySem.W.Frag) (cl : CT) (hs : List HdP) : List Hd := hs.map fun h => (.ref (cl.ad h.1), h.2.1, tX K cl h.2.1 h.2.2)
section
variable {X : Cx} {cl : CT} {W Wout : WX} {body : List Stmt} {h₀ : ExceptHandler} {hds : List ExceptHandler} {pos : Pos} {b : MS} {hs : List HdP} {sub : Nat → Nat → Option Bool}
theorem noErr_post {K : PySem.W.Frag} {ρ : Rho} {H : Hp} {r : ResS} {D : Ends} {W W' : WX} (h : (noErr r).post K cl ρ H D W) : (noErr r).post K cl ρ H D W' := by
  cases r <;> exact h
theorem off_post {K : PySem.W.Frag} {ρ : Rho} {H : Hp} {r : ResS} {D : Ends} {oi : Option Nat} (h : (r.off oi).post K cl ρ H D W) : r.post K cl ρ H (offI D oi) W := by
  cases oi with
  | none => exact h
  | some i =>
    cases r with
    | nx σ s => exact fun ρ' H' σ' l e S rs => h ρ' H' _ l e S (rs.drop i none)
    | bk σ s => exact fun ρ' H' σ' l e S rs => h ρ' H' _ l e S (rs.drop i none)
    | ct σ s => exact fun ρ' H' σ' l e S rs => h ρ' H' _ l e S (rs.drop i none)
    | rt v s => exact h
    | err x σ s => exact h
    | stuck => exact h
theorem tryH_go (hsub : ∀ c j b, sub c j = some b → PySem.W.exmOne X.K (.ref (cl.ad c)) (.ref (cl.ad j)) = some b) {D : Ends} {x : Exn} {σp : Sl} {σ : L2.St} {ρ : Rho} {st : Sto} {H : Hp} {C : Value} {d : Option Addr} (S : Sim X.K cl ρ st H) (rs : RelS X.K ρ H σp σ) (rx : ExnRel X.K cl ρ H x C d) :
    ∀ hs : List HdP, (tryH sub hs x σp st).post X.K cl ρ H D Wout → wMix X.K Wout D (hdsV X.K cl hs) C d σ H
  | [], h => h ρ H C d σ (Le.refl _) (Ext.refl _) S rs rx
  | (c, oi, f) :: r, h => by
    unfold tryH at h
    obtain ⟨rfl, rd⟩ := rx
    split at h
    · next es =>
      refine ⟨true, hsub _ _ _ es, fun _ a ha => ⟨ρ, st, onP σp oi, x, S, ?_, ⟨rfl, rd⟩, fun i hi hl => ?_, ?_⟩, fun z => nomatch z⟩
      · cases oi with
        | none => exact rs
        | some i => exact rs.drop i _
      · cases hi
        exact List.getElem?_set_self (by simpa [onI] using hl)
      · exact noErr_post (off_post h)
    · next es => exact ⟨false, hsub _ _ _ es, (fun z => nomatch z), fun _ => tryH_go hsub S rs ⟨rfl, rd⟩ r h⟩
    · exact h.elim
theorem ms_try (hs0 : X.stack = X.env :: X.outer) (hf : X.env.frame = some X.env.locals) (tk : Takes X Wout) (hsub : ∀ c j b, sub c j = some b → PySem.W.exmOne X.K (.ref (cl.ad c)) (.ref (cl.ad j)) = some b)
    (hb : ∀ (W : WX) (pn : List (Addr × Obj)) (xe : Value → Shared → Prop), Takes (X.tr pn xe) W → PassesOwn (model X.prog X.w) X.A X.env xe → PSs (X.tr pn xe) body (tMS X.K cl W b))
    (hh : HdsX X (h₀ :: hds) (hdsV X.K cl hs)) : PS X (.Try body (h₀ :: hds) [] [] pos) (tMS X.K cl Wout (sTry sub b hs)) :=
  (ps_try_mix hs0 hf tk hb hh).imp fun D σ H ⟨ρ, st, σp, S, rs, h⟩ => by
    refine ⟨ρ, st, σp, S, rs, ?_⟩
    unfold sTry at h
    cases q : b σp st with
    | err x σ1 s1 =>
      rw [q] at h
      exact fun ρ' H' C d σ' l e S' rs' rx _ => tryH_go hsub S' rs' rx hs (ResS.post.mono h l e)
    | nx σ s => rw [q] at h; exact h
    | bk σ s => rw [q] at h; exact h
    | ct σ s => rw [q] at h; exact h
    | rt v s => rw [q] at h; exact h
    | stuck => rw [q] at h; exact h
/-- a suite that leaves the exception alone -/
theorem tx_plain {oi : Option Nat} {f : MS} {suite : List Stmt} {a : Addr} {cls : Value} {d : Option Addr} {Y : Cx} (h : PSs Y suite (tMS Y.K cl W0 f)) : PSs Y suite (tX Y.K cl oi (fun _ => f) a cls d) :=
  h.imp fun D σ H ⟨ρ, st, σp, x, S, rs, _, _, h⟩ => ⟨ρ, st, σp, S, rs, by
    have h : (noErr (f σp st)).post Y.K cl ρ H D W0 := h
    cases q : f σp st with
    | err x σ1 s1 => rw [q] at h; exact h.elim
    | nx σ s => rw [q] at h; exact h
    | bk σ s => rw [q] at h; exact h
    | ct σ s => rw [q] at h; exact h
    | rt v s => rw [q] at h; exact h
    | stuck => rw [q] at h; exact h⟩
/-- return ('word', e.f) -/
def sxPair (i : Nat) (w : Str) (c : Nat) (f : Str) : Exn → MS := fun x σ st => if x.c = c ∧ i < σ.length then (match x.fs.lookup f with
  | some v => .rt (.tup [.str w, v]) st
  | none => .stuck) else .stuck
theorem tx_pair {i c : Nat} {n f w : Str} {j k} {p1 p2 p3 p4 p5 : Pos} {a : Addr} {oe : Obj} {cls : Value} {d : Option Addr} {pn : List (Addr × Obj)} (T : XfC X.K (cl.ad c)) (hno : PySem.W.findIn X.K (.ref (cl.ad c)) f = some none) (hz : Zc cls d oe) (hf : ∃ vs, oe.data = .fields vs)
    (hN : X.N[i]? = some n) (hv : Vis X.env.scope n) (hd : (n == ("__debug__" : Str)) = false := by decide) (hcd : (n == ("__classdict__" : Str)) = false := by decide)
    (hb : attributeBase (.Name n p2) f X.env (eval (.Name n p2) X.env) = eval (.Name n p2) X.env := by rfl) :
    PSs (X.suite a ((a, oe) :: pn)) [.Return (some (.Tuple [.Constant (.str w) j p1, .Attribute (.Name n p2) f p3] k p4)) p5] (tX X.K cl (some i) (sxPair i w c f) a cls d) := by
  refine (pss_one (ps_ret (pe_tup (pa_cons pe_str (pa_cons (pe_xf T hno hz hf (pe_var (X := X.suite a ((a, oe) :: pn)) (i := i) hN hv hd hcd) hb) pa_nil))))).imp fun D σ H ⟨ρ, st, σp, x, S, rs, rx, hsl, h⟩ => ?_
  have h : (noErr (sxPair i w c f x σp st)).post X.K cl ρ H D W0 := h
  unfold sxPair at h
  split at h
  · next hc =>
    split at h
    · next v ev =>
      obtain ⟨hcc, hil⟩ := hc
      obtain ⟨ec, rd⟩ := rx
      rcases rd with ⟨e0, _⟩ | ⟨dd, vs, e1, e2, rf⟩
      · rw [e0] at ev; cases ev
      · obtain ⟨u, hu, ru⟩ := rf.look ev
        refine ⟨.ref a, hsl i rfl (by rw [← rs.1]; exact hil), rfl, by rw [ec, hcc], dd, vs, u, e1, e2, hu, by show 2 ≤ sizeLine; decide, fun p hp => ?_⟩
        have ex : Ext X.K H (upd H p (.tup [.str w, u])) := Ext.new hp
        exact h ρ _ _ (Le.refl _) ex (S.plus hp) (.tup upd_same (.cons (.str w) (.cons (ru.mono (Le.refl _) ex) .nil)))
    · exact h.elim
  · exact h.elim
end

/-- the def that gets the lambda: try: return ask() except .. -/
def mLam (sub : Nat → Nat → Option Bool) (hs : List HdP) (n : Nat) (f : ME) : ME := fun σ st => match f σ st with
  | .ok v s => .ok v s
  | .err x s => (match tryH sub hs x (List.replicate n none) s with
    | .rt v s' => .ok v s'
    | .err x' _ s' => .stuck
    | _ => .stuck)
  | .stuck => .stuck
section
variable {X : Cx} {cl : CT} {W : WX}
theorem ext_n {K : PySem.W.Frag} {H H1 : Hp} (e : LamX.ExtN H H1) : Ext K H H1 := ⟨⟨(fun a vs q => e a _ q fun ps z => nomatch z), fun a vs q => by
  rcases q with ⟨o, q⟩ | q
  · exact .inl ⟨o, e a _ q fun ps z => nomatch z⟩
  · exact .inr q⟩, (fun a o u q => e a _ q fun ps z => nomatch z)⟩
theorem sim_n {ρ : Rho} {st : Sto} {H H1 : Hp} (S : Sim X.K cl ρ st H) (e : LamX.ExtN H H1) (t : LamX.Tabs cl.tabs H1) : Sim X.K cl ρ st H1 :=
  S.keep (ext_n (K := X.K) e).w (fun n a hr => by
    obtain ⟨u, q, ns⟩ : ∃ u, H a = some u ∧ NotSeq u := by
      have h := S.dom n a hr
      have : ∃ o, st.get n = some o := by
        unfold Sto.get
        exact ⟨st.objs[n]'h, Array.getElem?_eq_getElem h⟩
      obtain ⟨o, eo⟩ := this
      exact obj_soft S hr
    rw [q]
    exact e a u q fun ps z => by subst z; exact ns) t
/-- what the def makes of the lambda's reading -/
def TTp (K : PySem.W.Frag) (cl : CT) (sub : Nat → Nat → Option Bool) (hs : List HdP) (n : Nat) : (XK → Hp → VK → Prop) → Hp → VK → Prop := fun tl H Q =>
  tl (fun C d H' => ∃ ρ st x v s', Sim K cl ρ st H' ∧ ExnRel K cl ρ H' x C d ∧ tryH sub hs x (List.replicate n none) st = .rt v s' ∧ (Res.ok v s').post K cl ρ H' (Val K Q) NoE) H Q
/-- def x(a): try: return a() except .. -/
theorem said_gives {Ng : List Str} {x a q : Str} {sg : Scope} {g : Addr} {cdg : Value} {sub : Nat → Nat → Option Bool} {h₀ : ExceptHandler} {hds : List ExceptHandler} {hs : List HdP} {p1 p2 p3 p8 : Pos} (hsub : ∀ c j b, sub c j = some b → PySem.W.exmOne X.K (.ref (cl.ad c)) (.ref (cl.ad j)) = some b)
    (hh : ∀ (s : Shared) (H : Hp), HdsX (cxOf C8.CX0 X.prog X.w X.K X.mg X.base Ng x sg g cdg X.A X.stack s H C8.E0).nox (h₀ :: hds) (hdsV X.K cl hs)) (h0 : ∀ f : Addr, (L2.start Ng [V.ref f])[0]? = some (some (V.ref f))) :
    LamX.GivesTo X Ng x sg g cdg [.Try [.Return (some (.Call (.Name a p1) [] [] p2)) p3] (h₀ :: hds) [] [] p8] a q (TTp X.K cl sub hs Ng.length) := by
  intro f c' s H Q tl act hc h
  refine ⟨_, pss_one (ps_try_mix (X := (cxOf C8.CX0 X.prog X.w X.K X.mg X.base Ng x sg g cdg X.A X.stack s H C8.E0).nox)
      (tb := fun W D σ H => ∃ Ech : XK, (∀ cls d σ' H', Ech cls d H' → W cls d σ' H') ∧ σ[0]? = some (some (.ref f)) ∧ H c' = some (LamX.CodeO c' q) ∧ tl Ech H D.rt)
      rfl rfl LamX.takes0 (fun W pn xe tk _ => ?_) (hh s H)), ?_⟩
  · refine ⟨fun pins s' σ H' D I h' => ?_⟩
    obtain ⟨Ech, hW, h1, h2, h3⟩ := h'
    have hp := act W pn xe Ech p1 p2 tk hW
    have hq := pss_one (ps_ret (pos := p3) hp)
    exact hq.run pins s' σ H' D I ⟨h1, h2, h3⟩
  · refine ⟨_, fun cls d σ' H' hw => ?_, h0 f, hc, h⟩
    obtain ⟨ρ, st, x, v, s', S, rx, e, k⟩ := hw
    intro hlen
    have hlen : σ'.length = Ng.length := hlen
    have rs : RelS X.K ρ H' (List.replicate Ng.length none) σ' := by
      refine ⟨by rw [List.length_replicate, hlen], fun i y q => ?_⟩
      have := List.mem_of_getElem? q
      rw [List.mem_replicate] at this
      exact nomatch this.2
    refine tryH_go (Wout := fun _ _ _ _ => False) hsub S rs rx hs ?_
    rw [e]
    exact fun ρ' H2 w l ex S2 rw' => k ρ' H2 l ex S2 w rw'
theorem me_lam {x a : Str} {g c P : Addr} {k : Nat} {pg : Arguments} {h₀ : ExceptHandler} {hds : List ExceptHandler} {hs : List HdP} {sub : Nat → Nat → Option Bool} {p1 p2 p3 p8 : Pos} {sg : Scope} {dV kV doc pm cdv ct oc : Value} {an od : Option Addr} {osl : Array (Option Value)} {Ng : List Str}
    {params : Arguments} {body : Expr} {scope : Scope} {fb : ME} {p lpos pos : Pos} (hg : Gl X x) (hm : X.mg x = some (.ref g)) (hk : PySem.W.keepIn X.K (.ref g) = true)
    (lk : X.K.lookup g = some ⟨oc, od, .func (PySem.W.fnOf x x pg [.Try [.Return (some (.Call (.Name a p1) [] [] p2)) p3] (h₀ :: hds) [] [] p8] sg dV kV doc pm an cdv ct), osl⟩) (hcg : PySem.W.codeIn X.K cdv x = true)
    (hb : L2.Binds X.K (PySem.W.fnOf x x pg [.Try [.Return (some (.Call (.Name a p1) [] [] p2)) p3] (h₀ :: hds) [] [] p8] sg dV kV doc pm an cdv ct) [a] []) (Sg : FnScope Ng [a] sg) (hNg : Ng[0]? = some a) (hva : Vis sg a)
    (hsub : ∀ c j b, sub c j = some b → PySem.W.exmOne X.K (.ref (cl.ad c)) (.ref (cl.ad j)) = some b)
    (hh : ∀ (s : Shared) (H : Hp), HdsX (cxOf C8.CX0 X.prog X.w X.K X.mg X.base Ng x sg g cdv X.A X.stack s H C8.E0).nox (h₀ :: hds) (hdsV X.K cl hs)) (h0 : ∀ f : Addr, (L2.start Ng [V.ref f])[0]? = some (some (V.ref f)))
    (TB : LamX.TabB X.base X.mg c P) (hcode : X.env.code = .ref c) (hmT : (P, X.env.qual ++ "<lambda>") ∈ cl.tabs) (hu : ∀ p ∈ cl.tabs, p.1 = P → p.2 = X.env.qual ++ "<lambda>") (hr : Room (k + 2) X.A) (L : LamX.LamS X.env.scope scope) (hdef : defaultsOf params X.env = ([], []))
    (hbind : ∀ (q : Str) (cc : List (Str × Addr)) (pm cv ctv : Value), bindArgs (PySem.W.kla_fn "<lambda>" q params body scope cc pm cv ctv) ⟨[], []⟩ = pure [])
    (hbody : ∀ (A : Around) (outer : List Env) (s : Shared) (H : Hp) (E : XK) (f c' : Addr), Room k (A.deeper (LamX.lamEnv X scope s.heap.objs.size f c')) → PE (LamX.lamCx X A outer s H E scope f c') body (tM X.K cl (fun cls d _ H => E cls d H) fb))
    (hdb : (x == ("__debug__" : Str)) = false := by decide) (hd : (a == ("__debug__" : Str)) = false := by decide) (hcd : (a == ("__classdict__" : Str)) = false := by decide) :
    PE X (.Call (.Name x p) [.Lambda params body scope lpos] [] pos) (tM X.K cl W (mLam sub hs Ng.length fb)) :=
  (LamX.pe_lamcall (T := cl.tabs) (t := fun E => tM X.K cl (fun cls d _ H => E cls d H) fb) hg hm hk lk hcg hb Sg hNg hva (said_gives hsub hh h0) TB hcode hmT hu hr L hdef hbind hbody hdb hd hcd).imp fun σ H Q ⟨ρ, st, σp, S, rs, h⟩ => by
    refine ⟨S.tab, fun H1 en t1 => ?_⟩
    have ex := ext_n (K := X.K) en
    refine ⟨ρ, st, σp, sim_n S en t1, rs.mono (Le.refl _) ex, ?_⟩
    have h := Res.post.mono h (Le.refl _) ex
    unfold mLam at h
    cases q : fb σp st with
    | ok v s => rw [q] at h; exact h
    | stuck => rw [q] at h; exact h.elim
    | err z s =>
      rw [q] at h
      dsimp only at h
      intro ρ' H' C d l e S' rx
      split at h
      · next v s' et => exact ⟨ρ', s, z, v, s', S', rx, et, fun ρ2 H2 l2 e2 S2 w rw' => h ρ2 H2 (l.trans l2) (e.trans e2) S2 w rw'⟩
      · exact h.elim
      · exact h.elim
end

def delP (o i : PV) (st : Sto) : Option Sto := match o with
  | .ref n => match st.get n with
    | some (.lst xs) => match i with
      | .int k => if sz xs.length = true then (ixN xs.length k).map fun j => st.set n (.lst (xs.eraseIdx j)) else none
      | _ => none
    | some (.dct kvs false) => if kfit kvs false i = true ∧ (dgetP kvs i).isSome = true then some (st.set n (.dct (ddelP kvs i) false)) else none
    | _ => none
  | _ => none
def sDel (fo fi : ME) : MS := fun σ st => (fo σ st).toS σ fun o st1 => (fi σ st1).toS σ fun i st2 => match delP o i st2 with
  | some st3 => .nx σ st3
  | none => .stuck
section
variable {X : Cx} {cl : CT} {W : WX} {o i : Expr} {fo fi : ME} {pos tpos : Pos}
theorem or_some {K : PySem.W.Frag} {ρ : Rho} {H : Hp} {a : Option PV} {b : Option V} (h : OR K ρ H a b) (s : a.isSome = true) : ∃ v, b = some v := by
  cases a with
  | none => cases s
  | some x => cases b with
    | none => exact h.elim
    | some v => exact ⟨v, rfl⟩
theorem ddel_len (kvs : List (PV × PV)) (y : PV) : (ddelP kvs y).length ≤ kvs.length := List.length_filter_le _ _
theorem del_run {pins : List (Addr × Obj)} {σ : L2.St} {H : Hp} {s : Shared} {ρ : Rho} {st st' : Sto} {p q : PV} {v w : V} {ov iv : Value} {Q : Unit → Shared → Prop} (hu : X.A.units + 1 < cLine) (I : Inv X pins σ H s) (S : Sim X.K cl ρ st H) (rp : RelP X.K ρ H p v) (rq : RelP X.K ρ H q w) (ro : RelV v ov) (ri : RelV w iv) (e : delP p q st = some st')
    (k : ∀ s' H', Inv X pins σ H' s' → Ext X.K H H' → Sim X.K cl ρ st' H' → Q () s') : wpAny (model X.prog X.w) X.A (delItem ov iv) Q X.xe s := by
  unfold delP at e
  split at e
  · split at e
    · next xs eg =>
      split at e
      · split at e
        · next hz =>
          obtain ⟨j, ej, rfl⟩ := Option.map_eq_some_iff.mp e
          cases rq
          cases rp with
          | @ref _ a hr =>
            obtain rfl : ov = Value.ref a := ro
            obtain ⟨t, rfl⟩ := ri
            obtain ⟨vs, hq, rs⟩ := S.at_ hr eg
            obtain ⟨ex, S2⟩ := lst_write S hr hq (rs.erase j)
            obtain ⟨h1, h2, h3, h4⟩ := ixN_seq ej
            have hz := of_decide_eq_true hz
            exact del_list I hq (by omega) (by omega) (by rw [← rs.length]; exact h1) fun s' I' => k s' _ I' ex S2
        · cases e
      · cases e
    · next kvs eg =>
      split at e
      · next hk =>
        cases e
        cases rp with
        | @ref _ a hr =>
          obtain rfl : ov = Value.ref a := ro
          obtain ⟨u, rd, hq⟩ := S.at_ hr eg
          rw [if_neg Bool.false_ne_true] at hq
          rcases kfit_k hk.1 with ⟨ky, kk⟩ | ⟨ky, k0, kk⟩
          · obtain ⟨ws, rfl, r⟩ := fit_k rd kk
            obtain ⟨kx, ek⟩ := kindK_f ky
            obtain rfl := keyK_val ek rq
            obtain ⟨z, hz⟩ := or_some (relDk_val r ek) hk.2
            obtain ⟨ex, S2⟩ := dk_over S hr hq (relDk_del r ek)
            exact d_delItem I hq ri (by rw [hz]; rfl) fun s' I' => k s' _ I' ex S2
          · obtain ⟨zs, ks, rfl, ek⟩ := kindK_t ky
            cases rq with
            | @tup _ b vs hb rr =>
              have evs := keysK_vals ek rr
              subst evs
              obtain rfl : iv = Value.ref b := ri
              have ne : kvs ≠ [] := fun z => by rw [z] at hk; exact nomatch hk.2
              obtain ⟨ws, rfl, r⟩ := fit_t rd ne kk
              have ekT : keyT (.tup zs) = some ks := ek
              obtain ⟨z, hz⟩ := or_some (relDt_val r ekT) hk.2
              obtain ⟨zz, hd, xs, rel, dd⟩ := dt_of I.hok hq
              have hzs : xs.length ≤ sizeLine := by rw [← Paired.length rel]; exact zz
              obtain ⟨pp, hpp⟩ : ∃ pp, atKey xs ks = some pp := by
                have q := rel.val ks
                rw [hz] at q
                cases h : atKey xs ks with
                | none => rw [h] at q; exact q.elim
                | some pp => exact ⟨pp, rfl⟩
              refine wpAny_delItem_heap (hsz := hzs) (tupleKind_room_in1 hu) (key_of I.hok hb) hd dd hpp fun h' dd' hs => ?_
              obtain ⟨o, es, ep, hq', h2, h3, h4, _, h5⟩ := dd'
              have relD := relDt_del r ekT
              have ex : Ext X.K H (upd H a (.dT (dropK ws ks))) := Ext.write hq trivial
              have I2 : Inv X pins σ (upd H a (.dT (dropK ws ks))) { s with heap := h', toks := s.toks + (tupleKind (mixKind X.prog X.w)).draws ks } :=
                d_write I (by rw [hq]; exact True.intro) hs ⟨o, hq'⟩ ⟨Nat.le_trans (dropK_le ws ks) zz, hd, _, (L2.DX.KT_drop ks rel).keeps (fun c ys ec => (by rw [upd_ne (ne_of ec hq (fun z => nomatch z))]; exact ec)), o, es, ep, hq', h2, h3, h4, h5⟩
              by_cases hnil : ddelP kvs (.tup zs) = []
              · rw [hnil] at relD
                have e0 : dropK ws ks = [] := by
                  generalize dropK ws ks = l at relD
                  cases relD
                  rfl
                rw [e0] at I2
                have I3 := relabK I2 upd_same
                have e1 : upd (upd H a (.dT [])) a (.dK []) = upd H a (.dK []) := by
                  funext c
                  by_cases z : c = a
                  · rw [z, upd_same, upd_same]
                  · rw [upd_ne z, upd_ne z, upd_ne z]
                rw [e1] at I3
                rw [hnil] at k
                have ex2 : Ext X.K H (upd H a (.dK [])) := Ext.write hq trivial
                refine k _ _ I3 ex2 (S.write hr hq trivial ⟨_, .inl ⟨[], rfl, .nil⟩, ?_⟩)
                rw [if_neg Bool.false_ne_true]; exact upd_same
              · refine k _ _ I2 ex (S.write hr hq trivial ⟨_, .inr ⟨hnil, _, rfl, relD.mono (Le.refl _) ex⟩, ?_⟩)
                rw [if_neg Bool.false_ne_true]; exact upd_same
      · cases e
    · cases e
  · cases e
theorem ms_del (hu : X.A.units + 1 < cLine) (ho : PE X o (tM X.K cl W fo)) (hi : PE X i (tM X.K cl W fi)) : PS X (.Delete [.Subscript o i tpos] pos) (tMS X.K cl W (sDel fo fi)) := by
  refine ⟨fun pins s σ H D I ⟨ρ, st, σp, S, rs, h⟩ => ?_⟩
  refine wpAny_Delete (wpAny_deleteEach_cons (wpAny_delete_Subscript (thn (ho.run pins s σ H _ I (tM.beh S rs (toS_post rs h))) fun u s1 ⟨x, H1, I1, r1, ρ1, st1, p, S1, rs1, rp, h1⟩ => ?_)))
  have h2 := Res.post.imp (toS_post rs1 h1) (fun q st2 ρ2 H2 l2 e2 s2 h2 => (⟨rp.mono l2 e2, h2⟩ : RelP X.K ρ2 H2 p x ∧ _)) fun _ _ _ z => z
  refine thn (hi.run pins s1 σ H1 _ I1 (tM.beh S1 rs1 h2)) fun iv s2 ⟨y, H2, I2, r2, ρ2, st2, q, S2, rs2, rq, rp2, h3⟩ => ?_
  split at h3
  · next st3 ed => exact del_run hu I2 S2 rp2 rq r1 r2 ed fun s' H' I' ex S3 => wpAny_deleteEach_nil ⟨σ, H', I', h3 ρ2 H' σ (Le.refl _) ex S3 (rs2.mono (Le.refl _) ex)⟩
  · exact h3.elim
end

def putD (D : Nat) (y z : PV) (st : Sto) : Res Unit := match st.get D with
  | some (.dct kvs false) => if kindK y = some false ∧ kfit kvs false y = true ∧ sz (kvs.length + 1) = true then .ok () (st.set D (.dct (dputP kvs y z) false)) else .stuck
  | _ => .stuck
def dcStep (ft : MT) (fk fv : ME) (D : Nat) : Sl → Sto → Res Unit := fun σ st => (ft σ st).bind fun b st1 => if b = true then (fk σ st1).bind fun y st2 => (fv σ st2).bind fun z st3 => putD D y z st3 else .ok () st1
def mDc (w : MW) (g : MG) (ft : MT) (fk fv : ME) (vs : List Nat) : ME := fun σ st => (w σ st).bind fun p st1 =>
  (cpGo p.2 g (dcStep ft fk fv st1.nx) (wipeP σ vs) p.1 (st1.add (.dct [] false))).bind fun _ st2 => .ok (.ref st1.nx) st2
section
variable {X : Cx} {cl : CT} {W : WX} {kx vx tg iter : Expr} {ifs : List Expr} {scope : Scope} {own : List (Str × Nat)} {pos : Pos} {w : MW} {mg : MG} {ft : MT} {fk fv : ME}
theorem new_dict {K : PySem.W.Frag} {ρ : Rho} {H : Hp} {st : Sto} {D : Addr} (S : Sim K cl ρ st H) (hD : H D = none) : Le ρ (ρ.put st.nx D) ∧ Ext K H (upd H D (.dK [])) ∧ Sim K cl (ρ.put st.nx D) (st.add (.dct [] false)) (upd H D (.dK [])) := by
  refine ⟨S.le_put D, Ext.new hD, S.new hD ⟨_, .inl ⟨[], rfl, .nil⟩, ?_⟩⟩
  rw [if_neg Bool.false_ne_true]; exact upd_same
theorem put_post {K : PySem.W.Frag} {ρ : Rho} {H : Hp} {st : Sto} {Dn : Nat} {D : Addr} {y z : PV} {u v : V} {Nx : Hp → Prop} {E : Value → Option Addr → Hp → Prop} (S : Sim K cl ρ st H) (hr : ρ Dn = some D) (ry : RelP K ρ H y u) (rz : RelP K ρ H z v)
    (h : (putD Dn y z st).post K cl ρ H (fun _ _ _ H' => Nx H') E) : ∃ kvs k, u = kV k ∧ H D = some (.dK kvs) ∧ kvs.length < sizeLine ∧ Nx (upd H D (.dK (putK kvs k v))) := by
  unfold putD at h
  split at h
  · next kvs e =>
    split at h
    · next hc =>
      obtain ⟨hk, hfit, hl⟩ := hc
      obtain ⟨k, ek⟩ := kindK_f hk
      obtain rfl := keyK_val ek ry
      have hkk : ∀ p r, kvs = p :: r → kindK p.1 = some false := by
        rcases kfit_k hfit with ⟨_, kk⟩ | ⟨kt, _⟩
        · exact kk
        · rw [hk] at kt; cases kt
      obtain ⟨u, rd, q⟩ := S.at_ hr e
      rw [if_neg Bool.false_ne_true] at q
      obtain ⟨ws, rfl, r⟩ := fit_k rd hkk
      have ex : Ext K H (upd H D (.dK (putK ws k v))) := Ext.write q trivial
      refine ⟨ws, k, rfl, q, by rw [← r.length]; exact sz_lt hl, h ρ _ (Le.refl _) ex (S.write hr q trivial ⟨_, .inl ⟨_, rfl, relDk_put (r.mono (Le.refl _) ex) ek (rz.mono (Le.refl _) ex)⟩, ?_⟩)⟩
      rw [if_neg Bool.false_ne_true]; exact upd_same
    · exact h.elim
  · exact h.elim
theorem me_dc (hc : X.calm = true) (hN : X.N.Nodup) (hi : PI X tg iter (tW X.K cl W w)) (ok : BlkOk X.N X.env.scope scope own)
    (hg : ∀ (s : Shared) (H : Hp) (C : Addr) (cc : List (Str × Addr)) (fp : List Addr), PG (X.blk s H scope (compEnvC scope cc C X.env) fp) tg (tMG X.K (own.map (·.2)) mg))
    (ht : ∀ (s : Shared) (H : Hp) (C : Addr) (cc : List (Str × Addr)) (fp : List Addr), PTs (X.blk s H scope (compEnvC scope cc C X.env) fp) ifs (tMT X.K cl W0 ft))
    (hk : ∀ (s : Shared) (H : Hp) (C : Addr) (cc : List (Str × Addr)) (fp : List Addr), PE (X.blk s H scope (compEnvC scope cc C X.env) fp) kx (tM X.K cl W0 fk))
    (he : ∀ (s : Shared) (H : Hp) (C : Addr) (cc : List (Str × Addr)) (fp : List Addr), PE (X.blk s H scope (compEnvC scope cc C X.env) fp) vx (tM X.K cl W0 fv)) (hs : ∀ x, foldedSetIterable iter X.env x = pure x := by intro _; rfl) :
    PE X (.DictComp kx vx [⟨tg, iter, ifs, 0⟩] scope pos) (tM X.K cl W (mDc w mg ft fk fv (own.map (·.2)))) :=
  (pe_dc hc hN hi ok hg ht hk he hs).imp fun σ H Q ⟨ρ, st, σp, S, rs, h⟩ => by
    refine ⟨ρ, st, σp, S, rs, Res.post.imp (Res.post.bind h) (fun p st1 ρ1 H1 l1 e1 S1 h1 J ok D hD => ?_) fun _ _ _ z => z⟩
    obtain ⟨l2, e2, S2⟩ := new_dict S1 hD
    have hD2 : (ρ1.put st1.nx D) st1.nx = some D := Rho.put_same
    have h2 := Res.post.bind (Res.post.mono h1 l2 e2)
    refine cp_loop (Fin := fun H => Q (.ref D) H) (ok.later l2 e2) S2 (Res.post.imp h2 (fun _ st' ρ' H' l' e' S' h' => Res.post.now S' h' _ (.ref (l' _ _ hD2))) fun _ _ _ z => z) ?_
    intro v H3 Nx x ρ3 st3 σ3 l3 e3 S3 rv hg3 h3
    refine ⟨ρ3, wipeP σp (own.map (·.2)), x, ((rs.mono (l1.trans l2) (e1.trans e2)).mono l3 e3).wipe (own.map (·.2)), rv, σ3, hg3, fun σ4 rs4 hw4 => ⟨by rw [hw4, wipe_wipe], ρ3, st3, σ3, S3, rs4, ?_⟩⟩
    refine Res.post.imp (Res.post.bind h3) (fun b st4 ρ4 H4 l4 e4 S4 h4 => ?_) fun _ _ _ z => z
    cases b with
    | false => exact iteF (Res.post.now S4 h4)
    | true =>
      refine iteT ⟨ρ4, st4, σ3, S4, rs4.mono l4 e4, Res.post.imp (Res.post.bind h4) (fun y st5 ρ5 H5 l5 e5 S5 h5 u ru => ?_) fun _ _ _ z => z⟩
      refine ⟨ρ5, st5, σ3, S5, (rs4.mono l4 e4).mono l5 e5, Res.post.imp (Res.post.bind h5) (fun z st6 ρ6 H6 l6 e6 S6 h6 v2 rv2 => ?_) fun _ _ _ z => z⟩
      exact put_post S6 (l6 _ _ (l5 _ _ (l4 _ _ (l3 _ _ hD2)))) (ru.mono l6 e6) rv2 h6
end
end MP
set_option Elab.async false
set_option linter.all false
set_option maxRecDepth 100000
set_option maxHeartbeats 2000000
namespace MP
open PySem PySem.Spec L2
def outV (r : ResS) : Res PV := match r with
  | .nx _ s => .ok .non s
  | .rt v s => .ok v s
  | .err x _ s => .err x s
  | _ => .stuck
def slots (n : Nat) (args : List PV) : Sl := args.map some ++ List.replicate (n - args.length) none
def runB (n : Nat) (b : MS) (args : List PV) (st : Sto) : Res PV := outV (b (slots n args) st)
theorem start_rel {K : PySem.W.Frag} {ρ : Rho} {H : Hp} {N : List Str} {args : List PV} {vs : List V} (r : RelPs K ρ H args vs) : RelS K ρ H (slots N.length args) (L2.start N vs) := by
  unfold slots L2.start
  have hl := r.length
  refine ⟨by simp [hl], fun i x q => ?_⟩
  by_cases h : i < args.length
  · rw [List.getElem?_append_left (by simpa using h), List.getElem?_map] at q
    obtain ⟨y, h1, h2⟩ := Option.map_eq_some_iff.mp q
    cases h2
    obtain ⟨v, h3, h4⟩ := r.get h1
    refine ⟨v, ?_, h4⟩
    rw [List.getElem?_append_left (by simpa [← hl] using h), List.getElem?_map, h3]
    rfl
  · rw [List.getElem?_append_right (by simpa using h)] at q
    have := List.mem_of_getElem? q
    rw [List.mem_replicate] at this
    exact nomatch this.2
section
variable {P : Program} {w : World} {K : PySem.W.Frag} {mg : Str → Option Value} {base : Heap} {cl : CT}
abbrev CxD (P : Program) (w : World) (K : PySem.W.Frag) (mg : Str → Option Value) (base : Heap) (N : List Str) (qual : Str) (scope : Scope) (f : Addr) (cd : Value) (A : Around) (outer : List Env) (s : Shared) (H : Hp) (E : XK) : Cx :=
  cxOf (L2.CX P w) P w K mg base N qual scope f cd A outer s H E
abbrev WD (E : XK) : WX := fun cls d _ H => E cls d H
theorem tkD {N : List Str} {qual : Str} {scope : Scope} {f : Addr} {cd : Value} {A : Around} {outer : List Env} {s : Shared} {H : Hp} {E : XK} : Takes (CxD P w K mg base N qual scope f cd A outer s H E) (WD E) := takes_of rfl rfl rfl rfl
theorem poD {N : List Str} {qual : Str} {scope : Scope} {f : Addr} {cd : Value} {A : Around} {outer : List Env} {s : Shared} {H : Hp} {E : XK} : PassesOwn (model (CxD P w K mg base N qual scope f cd A outer s H E).prog (CxD P w K mg base N qual scope f cd A outer s H E).w) (CxD P w K mg base N qual scope f cd A outer s H E).A (CxD P w K mg base N qual scope f cd A outer s H E).env (CxD P w K mg base N qual scope f cd A outer s H E).xe := passes_of rfl
/-- a def's body, walked -/
abbrev BodyOk (P : Program) (w : World) (K : PySem.W.Frag) (mg : Str → Option Value) (base : Heap) (cl : CT) (k : Nat) (f : Addr) (N : List Str) (qual : Str) (scope : Scope) (body : List Stmt) (b : MS) : Prop :=
  ∀ (cdv : Value) (A : Around) (outer : List Env) (s : Shared) (H : Hp) (E : XK), Room k (A.deeper (PyProof.Rows.envOfC qual scope s.heap.objs.size f cdv)) → PSs (CxD P w K mg base N qual scope f cdv A outer s H E) body (tMS K cl (WD E) b)
theorem body_go {X : Cx} {body : List Stmt} {N : List Str} {b : MS} {E : XK} {args : List PV} {vs : List V} {H : Hp} {Q : VK} {ρ : Rho} {st : Sto} (S : Sim K cl ρ st H) (r : RelPs K ρ H args vs) (h : (runB N.length b args st).post K cl ρ H (Val K Q) E) :
    tMS K cl (WD E) b { nx := fun _ H' => Q .non H', rt := Q } (L2.start N vs) H := by
  refine ⟨ρ, st, slots N.length args, S, start_rel r, ?_⟩
  unfold runB at h
  cases q : b (slots N.length args) st with
  | nx σ s => rw [q] at h; exact fun ρ' H' σ' l e S' _ => h ρ' H' l e S' _ .non
  | rt v s => rw [q] at h; exact fun ρ' H' u l e S' ru => h ρ' H' l e S' u ru
  | bk σ s => rw [q] at h; exact h.elim
  | ct σ s => rw [q] at h; exact h.elim
  | err x σ s => rw [q] at h; exact fun ρ' H' C d σ' l e S' _ rx => h ρ' H' C d l e S' rx
  | stuck => rw [q] at h; exact h.elim
theorem fn_mp {k : Nat} {x qual : Str} {st0 : Stmt} {f : Addr} {fd : FuncData} {N ps : List Str} {b : MS} (F : Fun K x qual st0 f fd) (S : FnScope N ps (defScope st0)) (hb : BodyOk P w K mg base cl k f N qual (defScope st0) (defBody st0) b) :
    FnOk P w K mg base (L2.CX P w) (k + 1) f fd ps (spM K cl ps.length (runB N.length b)) :=
  F.okX S (fun vs H Q E h => spM_len vs H Q E h) fun cdv A outer s H vs Q E hr ⟨ρ, st, args, S', r, _, h⟩ => ⟨_, hb cdv A outer s H E hr, body_go (X := CxD P w K mg base N qual (defScope st0) f cdv A outer s H E) (body := defBody st0) S' r h⟩
/-- .. with defaults -/
theorem fn_mpD {k : Nat} {x qual : Str} {st0 : Stmt} {f : Addr} {N ps : List Str} {b : MS} {oc : Value} {od an : Option Addr} {osl : Array (Option Value)} {dV kV doc pm cdv ct : Value}
    (l : K.lookup f = some ⟨oc, od, .func (PySem.W.fnOf x qual (defArgs st0) (defBody st0) (defScope st0) dV kV doc pm an cdv ct), osl⟩) (c : PySem.W.codeIn K cdv qual = true) (S : FnScope N ps (defScope st0)) (hb : BodyOk P w K mg base cl k f N qual (defScope st0) (defBody st0) b) :
    FnOk P w K mg base (L2.CX P w) (k + 1) f (PySem.W.fnOf x qual (defArgs st0) (defBody st0) (defScope st0) dV kV doc pm an cdv ct) ps (spM K cl ps.length (runB N.length b)) :=
  fn_of l c S (fun vs H Q E h => spM_len vs H Q E h) fun A outer s H vs Q E hr ⟨ρ, st, args, S', r, _, h⟩ => ⟨_, hb cdv A outer s H E hr, body_go (X := CxD P w K mg base N qual (defScope st0) f cdv A outer s H E) (body := defBody st0) S' r h⟩
/-- a def that may be called by its name -/
structure CalM (P : Program) (w : World) (K : PySem.W.Frag) (mg : Str → Option Value) (base : Heap) (cl : CT) (k : Nat) (x : Str) (n : Nat) (ks : List Str) (m : List PV → Sto → Res PV) (gP : List PV → List PV → List PV) : Prop where
  ex : ∃ (f : Addr) (fd : FuncData) (ps : List Str), FnOk P w K mg base (L2.CX P w) k f fd ps (spM K cl ps.length m) ∧ mg x = some (.ref f) ∧ PySem.W.keepIn K (.ref f) = true ∧ KBp K cl fd ps n ks gP
/-- a method -/
structure MetM (P : Program) (w : World) (K : PySem.W.Frag) (mg : Str → Option Value) (base : Heap) (cl : CT) (k c : Nat) (x : Str) (n : Nat) (m : List PV → Sto → Res PV) (gP : List PV → List PV → List PV) : Prop where
  ex : ∃ (f : Addr) (fd : FuncData) (ps : List Str), FnOk P w K mg base (L2.CX P w) k f fd ps (spM K cl ps.length m) ∧ Meth K (cl.ad c) x f ∧ KBp K cl fd ps (n + 1) [] gP
  cls : Cls K (cl.ad c)
  nf : ∀ z ∈ cl.fld c, z ≠ x
/-- a class that may be made -/
structure ClsM (P : Program) (w : World) (K : PySem.W.Frag) (mg : Str → Option Value) (base : Heap) (cl : CT) (k c : Nat) (x : Str) (n : Nat) (ks : List Str) (m : List PV → Sto → Res PV) (gP : List PV → List PV → List PV) : Prop where
  ex : ∃ (f : Addr) (fd : FuncData) (ps : List Str), FnOk P w K mg base (L2.CX P w) k f fd ps (spM K cl ps.length m) ∧ Mk K (cl.ad c) f ∧ KBp K cl fd ps (n + 1) ks gP
  nm : mg x = some (.ref (cl.ad c))
end
section
variable {X : Cx} {cl : CT} {W : WX} {o e : Expr} {es : List Expr} {kws : List Keyword} {fo fa : ME} {g gk : MEs} {k n c : Nat} {x mn : Str} {ks : List Str} {m : List PV → Sto → Res PV} {gP : List PV → List PV → List PV} {p pos apos : Pos}
theorem mc_call (C : CalM X.prog X.w X.K X.mg X.base cl k x n [] m gP) (hr : Room k X.A) (hg : Gl X x) (tk : Takes X W) (ha : PA X (e :: es) (tMA X.K cl W g)) (hl : Len g n) (hdb : (x == ("__debug__" : Str)) = false := by decide)
    (he : starEach (e :: es) X.env = (false, eval e X.env) :: starEach es X.env := by rfl) (hpl : (backTo pos (starEach es X.env)).any (·.1) = false := by rfl) : PE X (.Call (.Name x p) (e :: es) [] pos) (tM X.K cl W (mCall m gP g)) := by
  obtain ⟨f, fd, ps, F, hm, hk, hb⟩ := C.ex
  exact me_call F hr hg hm hk hb tk ha hl hdb he hpl
theorem mc_call0 (C : CalM X.prog X.w X.K X.mg X.base cl k x 0 [] m gP) (hr : Room k X.A) (hg : Gl X x) (tk : Takes X W) (hdb : (x == ("__debug__" : Str)) = false := by decide) : PE X (.Call (.Name x p) [] [] pos) (tM X.K cl W (mCall m gP mNil)) := by
  obtain ⟨f, fd, ps, F, hm, hk, hb⟩ := C.ex
  refine ⟨fun pins s σ H Q I ⟨ρ, st, σp, S, rs, h⟩ => ?_⟩
  obtain ⟨gg, gV, hb, hG⟩ := hb.ex
  refine wpAny_Call_Name_kw (ld_glob I hg hm ?_ hdb)
  refine PySem.W.callWith_K0 (first := []) I.kIn hk ?_
  obtain ⟨q1, q2⟩ := hG ρ H [] [] [] [] rfl rfl .nil .nil
  exact run_any (us := []) (vs := []) (zs := []) (ws := []) (ks := []) F hr hb tk I .nil .nil rfl rfl ⟨ρ, st, _, S, q1, q2, h⟩
theorem mc_callK (C : CalM X.prog X.w X.K X.mg X.base cl k x n ks m gP) (hr : Room k X.A) (hg : Gl X x) (tk : Takes X W) (ha : PA X (e :: es) (tMA X.K cl W g)) (hl : Len g n) (hkw : PK X kws (tMA X.K cl W gk)) (hlk : Len gk ks.length)
    (hall : (backToKw pos (keywordEach kws X.env)).all (·.1.isSome) = true := by rfl) (hks : (backToKw pos (keywordEach kws X.env)).filterMap (·.1) = ks := by rfl) (hdb : (x == ("__debug__" : Str)) = false := by decide)
    (he : starEach (e :: es) X.env = (false, eval e X.env) :: starEach es X.env := by rfl) (hpl : ((backTo pos (starEach (e :: es) X.env)).any (·.1) || (backToKw pos (keywordEach kws X.env)).any (·.1.isNone)) = false := by rfl) :
    PE X (.Call (.Name x p) (e :: es) kws pos) (tM X.K cl W (mCallK m gP g gk)) := by
  obtain ⟨f, fd, ps, F, hm, hk, hb⟩ := C.ex
  exact me_callK F hr hg hm hk hb tk ha hl hkw hlk hall hks hdb he hpl
theorem mc_meth {pl : Sem Bool} (C : MetM X.prog X.w X.K X.mg X.base cl k c mn n m gP) (hr : Room k X.A) (ho : PE X o (tM X.K cl W fo)) (tk : Takes X W) (ha : PA X (e :: es) (tMA X.K cl W g)) (hl : Len g n)
    (hst : starEach (e :: es) X.env = (false, eval e X.env) :: starEach es X.env := by rfl) (hpl : (backTo pos (starEach es X.env)).any (·.1) = false := by rfl)
    (ht : eval (.Call (.Attribute o mn apos) (e :: es) [] pos) X.env = (do
      let ov ← eval o X.env
      standAt apos.atName
      let (f, first) ← holding [ov] (getMethod ov mn pl)
      callWith pos f first (backTo pos (starEach (e :: es) X.env)) (backToKw pos (keywordEach [] X.env))) := by rfl) :
    PE X (.Call (.Attribute o mn apos) (e :: es) [] pos) (tM X.K cl W (mMeth c m gP fo g)) := by
  obtain ⟨f, fd, ps, F, hm, hb⟩ := C.ex
  exact me_meth ho C.cls hm C.nf F hr hb tk ha hl hst hpl ht
theorem mc_meth0 {pl : Sem Bool} (C : MetM X.prog X.w X.K X.mg X.base cl k c mn 0 m gP) (hr : Room k X.A) (ho : PE X o (tM X.K cl W fo)) (tk : Takes X W)
    (ht : eval (.Call (.Attribute o mn apos) [] [] pos) X.env = (do
      let ov ← eval o X.env
      standAt apos.atName
      let (f, first) ← holding [ov] (getMethod ov mn pl)
      callWith pos f first (backTo pos (starEach [] X.env)) (backToKw pos (keywordEach [] X.env))) := by rfl) :
    PE X (.Call (.Attribute o mn apos) [] [] pos) (tM X.K cl W (mMeth c m gP fo mNil)) := by
  obtain ⟨f, fd, ps, F, hm, hb⟩ := C.ex
  exact me_meth0 ho C.cls hm C.nf F hr hb tk ht
theorem mc_make0 (C : ClsM X.prog X.w X.K X.mg X.base cl k c x 0 [] m gP) (hr : Room (k + 1) X.A) (hg : Gl X x) (tk : Takes X W) (hdb : (x == ("__debug__" : Str)) = false := by decide) : PE X (.Call (.Name x p) [] [] pos) (tM X.K cl W (mMake c m gP mNil mNil)) := by
  obtain ⟨f, fd, ps, F, M, hb⟩ := C.ex
  exact me_make0 M F hr hg C.nm hb tk hdb
theorem mc_make (C : ClsM X.prog X.w X.K X.mg X.base cl k c x n [] m gP) (hr : Room (k + 1) X.A) (hg : Gl X x) (tk : Takes X W) (ha : PA X (e :: es) (tMA X.K cl W g)) (hl : Len g n) (hdb : (x == ("__debug__" : Str)) = false := by decide)
    (he : starEach (e :: es) X.env = (false, eval e X.env) :: starEach es X.env := by rfl) (hpl : (backTo pos (starEach es X.env)).any (·.1) = false := by rfl) : PE X (.Call (.Name x p) (e :: es) [] pos) (tM X.K cl W (mMake c m gP g mNil)) := by
  obtain ⟨f, fd, ps, F, M, hb⟩ := C.ex
  exact me_make M F hr hg C.nm hb tk ha hl hdb he hpl
theorem mc_makeK0 (C : ClsM X.prog X.w X.K X.mg X.base cl k c x 0 ks m gP) (hr : Room (k + 1) X.A) (hg : Gl X x) (tk : Takes X W) (hkw : PK X kws (tMA X.K cl W gk)) (hlk : Len gk ks.length)
    (hall : (backToKw pos (keywordEach kws X.env)).all (·.1.isSome) = true := by rfl) (hks : (backToKw pos (keywordEach kws X.env)).filterMap (·.1) = ks := by rfl) (hdb : (x == ("__debug__" : Str)) = false := by decide)
    (hpl : ((backTo pos (starEach [] X.env)).any (·.1) || (backToKw pos (keywordEach kws X.env)).any (·.1.isNone)) = false := by rfl) :
    PE X (.Call (.Name x p) [] kws pos) (tM X.K cl W (mMake c m gP mNil gk)) := by
  obtain ⟨f, fd, ps, F, M, hb⟩ := C.ex
  exact me_makeK0 M F hr hg C.nm hb tk hkw hlk hall hks hdb hpl
/-- one or the other -/
def mEither (f g : ME) : ME := fun σ st => match f σ st with
  | .stuck => g σ st
  | r => r
theorem me_either {e : Expr} {f g : ME} (h1 : PE X e (tM X.K cl W f)) (h2 : PE X e (tM X.K cl W g)) : PE X e (tM X.K cl W (mEither f g)) :=
  (pe_or h1 h2).imp fun σ H Q ⟨ρ, st, σp, S, rs, h⟩ => by
    unfold mEither at h
    cases q : f σp st with
    | stuck => rw [q] at h; exact .inr ⟨ρ, st, σp, S, rs, h⟩
    | ok v s => rw [q] at h; exact .inl ⟨ρ, st, σp, S, rs, by rw [q]; exact h⟩
    | err x s => rw [q] at h; exact .inl ⟨ρ, st, σp, S, rs, by rw [q]; exact h⟩
def sEither (f g : MS) : MS := fun σ st => match f σ st with
  | .stuck => g σ st
  | r => r
theorem ms_either {st0 : Stmt} {f g : MS} (h1 : PS X st0 (tMS X.K cl W f)) (h2 : PS X st0 (tMS X.K cl W g)) : PS X st0 (tMS X.K cl W (sEither f g)) := by
  have hor : PS X st0 (fun D σ H => tMS X.K cl W f D σ H ∨ tMS X.K cl W g D σ H) := ⟨fun pins s σ H D I q => q.elim (h1.run pins s σ H D I) (h2.run pins s σ H D I)⟩
  refine hor.imp fun D σ H ⟨ρ, st, σp, S, rs, h⟩ => ?_
  unfold sEither at h
  cases q : f σp st with
  | stuck => rw [q] at h; exact .inr ⟨ρ, st, σp, S, rs, h⟩
  | nx v s => rw [q] at h; exact .inl ⟨ρ, st, σp, S, rs, by rw [q]; exact h⟩
  | rt v s => rw [q] at h; exact .inl ⟨ρ, st, σp, S, rs, by rw [q]; exact h⟩
  | bk v s => rw [q] at h; exact .inl ⟨ρ, st, σp, S, rs, by rw [q]; exact h⟩
  | ct v s => rw [q] at h; exact .inl ⟨ρ, st, σp, S, rs, by rw [q]; exact h⟩
  | err x v s => rw [q] at h; exact .inl ⟨ρ, st, σp, S, rs, by rw [q]; exact h⟩
/-- what is never come to -/
def mStuck : ME := fun _ _ => .stuck
def sStuck : MS := fun _ _ => .stuck
def tStuck : MT := fun _ _ => .stuck
theorem me_stuck {e : Expr} : PE X e (tM X.K cl W mStuck) := ⟨fun _ _ _ _ _ _ ⟨_, _, _, _, _, h⟩ => h.elim⟩
theorem mt_stuck {e : Expr} : PT X e (tMT X.K cl W tStuck) := ⟨fun _ _ _ _ _ _ ⟨_, _, _, _, _, h⟩ => h.elim⟩
theorem ms_stuck {s : Stmt} : PS X s (tMS X.K cl W sStuck) := ⟨fun _ _ _ _ _ _ ⟨_, _, _, _, _, h⟩ => h.elim⟩
theorem mss_stuck {s : List Stmt} : PSs X s (tMS X.K cl W sStuck) := ⟨fun _ _ _ _ _ _ ⟨_, _, _, _, _, h⟩ => h.elim⟩
end
/-- the law's call: it gets the script, which it only reads -/
theorem law_sp {K : PySem.W.Frag} {cl : CT} {H : Hp} {a : Addr} {ns : List Int} {m : List PV → Sto → Res PV} {Q : VK} {E : XK} (hR : RoL K H a (ns.map V.int)) (hT : LamX.Tabs cl.tabs H) (h : ∃ s', m [.rls (ns.map .int)] ⟨#[]⟩ = .ok (.bl true) s') (hQ : ∀ H', Q (.bl true) H') :
    spM K cl 1 m [.ref a] H Q E := by
  obtain ⟨s', e⟩ := h
  refine ⟨fun _ => none, ⟨#[]⟩, [.rls (ns.map .int)], ⟨fun _ _ _ h => (nomatch h), fun _ _ h => (nomatch h), fun n o h => ?_, hT⟩, .cons (.rls hR (rel_ints ns)) .nil, rfl, ?_⟩
  · unfold Sto.get at h
    simp at h
  · rw [e]
    intro ρ' H' _ _ _ u ru
    cases ru
    exact hQ H'
theorem rol_only {K : PySem.W.Frag} {H : Hp} {a : Addr} {xs : List V} (hO : Only H) (h : SqL K H a xs) : RoL K H a xs := by
  rcases h with (h | h) | h
  · rcases hO a with q | ⟨o, ys, q⟩
    · rw [q] at h; cases h
    · rw [q] at h; cases h
  · exact .inl h
  · exact .inr h
end MP
set_option Elab.async false
set_option linter.all false
set_option maxRecDepth 100000
set_option maxHeartbeats 2000000
namespace MP
open PySem PySem.Spec L2
section
variable {X : Cx} {cl : CT} {W : WX} {a b : Expr} {fa fb : ME} {pos : Pos} {ga gb : MT}
theorem ow_lt : OpW X cl (compareOp .Lt) oLt := OpW.of op_lt (op2_I0 fun _ _ _ _ => .bl _)
theorem ow_le : OpW X cl (compareOp .LtE) oLe := OpW.of op_le (op2_I0 fun _ _ _ _ => .bl _)
theorem ow_gt : OpW X cl (compareOp .Gt) oGt := OpW.of op_gt (op2_I0 fun _ _ _ _ => .bl _)
theorem ow_ge : OpW X cl (compareOp .GtE) oGe := OpW.of op_ge (op2_I0 fun _ _ _ _ => .bl _)
theorem ow_isN : OpW X cl (compareOp .Is) oIsN := OpW.of op_isN fun ρ st H x y v w Q S rx ry h => by
  unfold oIsN at h
  split at h
  · cases ry
    refine ⟨rfl, ?_⟩
    cases rx <;> exact Res.post.now S h _ (.bl _)
  · exact h.elim
theorem ow_notN : OpW X cl (compareOp .IsNot) oNotN := OpW.of op_notN fun ρ st H x y v w Q S rx ry h => by
  unfold oNotN at h
  split at h
  · cases ry
    refine ⟨rfl, ?_⟩
    cases rx <;> exact Res.post.now S h _ (.bl _)
  · exact h.elim
theorem calm_isN : Calm2 oIsN := fun x y st e s' h => by unfold oIsN at h; split at h <;> cases h
theorem calm_notN : Calm2 oNotN := fun x y st e s' h => by unfold oNotN at h; split at h <;> cases h
end
end MP
set_option Elab.async false
set_option linter.all false
set_option maxRecDepth 100000
set_option maxHeartbeats 2000000
namespace MP
open PySem PySem.Spec L2
section
variable {X : Cx} {cl : CT} {W : WX}
def sLockL (f : MS) : List Nat → MS
  | [] => f
  | n :: r => sLock (fun _ st => .ok (.ref n) st) (sLockL f r)
def sLocks (ids : Sl → Sto → List Nat) (f : MS) : MS := fun σ st => sLockL f (ids σ st) σ st
theorem ms_lockL {st0 : Stmt} {f : MS} (h : PS X st0 (tMS X.K cl W f)) : ∀ ids : List Nat, PS X st0 (tMS X.K cl W (sLockL f ids))
  | [] => h
  | n :: r => ms_lock _ (ms_lockL h r)
theorem ms_locks {st0 : Stmt} {f : MS} (ids : Sl → Sto → List Nat) (h : PS X st0 (tMS X.K cl W f)) : PS X st0 (tMS X.K cl W (sLocks ids f)) :=
  ⟨fun pins s σ H D I ⟨ρ, st, σp, S, rs, q⟩ => (ms_lockL h (ids σp st)).run pins s σ H D I ⟨ρ, st, σp, S, rs, q⟩⟩
end
/-- an own exception class with one attribute -/
structure ExM (P : Program) (w : World) (K : PySem.W.Frag) (mg : Str → Option Value) (base : Heap) (cl : CT) (c : Nat) (f : Str) : Prop where
  oex : OexC K (cl.ad c)
  fn : ∃ (fI : Addr) (fd : FuncData) (ps : List Str), PySem.W.findIn K (.ref (cl.ad c)) "__init__" = some (some (.ref fI)) ∧ PySem.W.typeIn K (.ref fI) = some (.type "function") ∧
    FnOk P w K mg base CX0 1 fI fd ps (spXi (cl.ad c) f) ∧ Binds K fd ps []
theorem ExM.at_ {X : Cx} {cl : CT} {c : Nat} {f : Str} (M : ExM X.prog X.w X.K X.mg X.base cl c f) (hr : Room 2 X.A) : ExC X cl c f := by
  obtain ⟨o, fI, fd, ps, h1, h2, h3, h4⟩ := M
  exact ⟨o, fI, 1, fd, ps, h1, h2, h3, hr, h4⟩
end MP
set_option Elab.async false
set_option linter.all false
set_option maxRecDepth 100000
set_option maxHeartbeats 2000000
namespace MP
open PySem PySem.Spec L2
/-- the table of the code object at c: P, for the lambdas named q -/
structure TabF (base : Heap) (mg : Str → Option Value) (cl : CT) (c P : Addr) (q : Str) : Prop where
  tb : LamX.TabB base mg c P
  mem : (P, q) ∈ cl.tabs
  one : ∀ p ∈ cl.tabs, p.1 = P → p.2 = q
/-- a def x(a) that is handed lambdas -/
structure SaidM (K : PySem.W.Frag) (mg : Str → Option Value) (x a : Str) (st : Stmt) : Prop where
  ex : ∃ (g : Addr) (dV kV doc pm cdv ct oc : Value) (an od : Option Addr) (osl : Array (Option Value)), mg x = some (.ref g) ∧ PySem.W.keepIn K (.ref g) = true ∧
    K.lookup g = some ⟨oc, od, .func (PySem.W.fnOf x x (defArgs st) (defBody st) (defScope st) dV kV doc pm an cdv ct), osl⟩ ∧ PySem.W.codeIn K cdv x = true ∧
    L2.Binds K (PySem.W.fnOf x x (defArgs st) (defBody st) (defScope st) dV kV doc pm an cdv ct) [a] []
def subOf (l : List ((Nat × Nat) × Bool)) : Nat → Nat → Option Bool := fun c j => l.lookup (c, j)
theorem mem_lookup {α β : Type} [BEq α] [LawfulBEq α] {x : α} {b : β} : ∀ {l : List (α × β)}, l.lookup x = some b → (x, b) ∈ l
  | [], e => by cases e
  | (y, d) :: r, e => by
    rw [List.lookup_cons] at e
    split at e
    · next q =>
      cases e
      rw [eq_of_beq q]
      exact List.mem_cons_self
    · exact List.mem_cons_of_mem _ (mem_lookup e)
theorem subOf_ok {K : PySem.W.Frag} {cl : CT} {l : List ((Nat × Nat) × Bool)} (h : ∀ p ∈ l, PySem.W.exmOne K (.ref (cl.ad p.1.1)) (.ref (cl.ad p.1.2)) = some p.2) : ∀ c j b, subOf l c j = some b → PySem.W.exmOne K (.ref (cl.ad c)) (.ref (cl.ad j)) = some b :=
  fun c j b e => h ((c, j), b) (by unfold subOf at e; exact mem_lookup e)
section
variable {X : Cx} {cl : CT} {W : WX}
theorem mc_lam {x a : Str} {c P : Addr} {k : Nat} {st : Stmt} {h₀ : ExceptHandler} {hds : List ExceptHandler} {hs : List HdP} {sub : Nat → Nat → Option Bool} {p1 p2 p3 p8 : Pos} {Ng : List Str} {q : Str}
    {params : Arguments} {body : Expr} {scope : Scope} {fb : ME} {p lpos pos : Pos} (S : SaidM X.K X.mg x a st) (hg : Gl X x) (eb : defBody st = [.Try [.Return (some (.Call (.Name a p1) [] [] p2)) p3] (h₀ :: hds) [] [] p8])
    (Sg : FnScope Ng [a] (defScope st)) (hNg : Ng[0]? = some a) (hva : Vis (defScope st) a)
    (hsub : ∀ c j b, sub c j = some b → PySem.W.exmOne X.K (.ref (cl.ad c)) (.ref (cl.ad j)) = some b)
    (hh : ∀ (g : Addr) (cdv : Value) (s : Shared) (H : Hp), HdsX (cxOf C8.CX0 X.prog X.w X.K X.mg X.base Ng x (defScope st) g cdv X.A X.stack s H C8.E0).nox (h₀ :: hds) (hdsV X.K cl hs)) (h0 : ∀ f : Addr, (L2.start Ng [V.ref f])[0]? = some (some (V.ref f)))
    (TF : TabF X.base X.mg cl c P q) (hq : q = X.env.qual ++ "<lambda>") (hcode : X.env.code = .ref c) (hr : Room (k + 2) X.A) (L : LamX.LamS X.env.scope scope) (hdef : defaultsOf params X.env = ([], []))
    (hbind : ∀ (q : Str) (cc : List (Str × Addr)) (pm cv ctv : Value), bindArgs (PySem.W.kla_fn "<lambda>" q params body scope cc pm cv ctv) ⟨[], []⟩ = pure [])
    (hbody : ∀ (A : Around) (outer : List Env) (s : Shared) (H : Hp) (E : XK) (f c' : Addr), Room k (A.deeper (LamX.lamEnv X scope s.heap.objs.size f c')) → PE (LamX.lamCx X A outer s H E scope f c') body (tM X.K cl (fun cls d _ H => E cls d H) fb))
    (hdb : (x == ("__debug__" : Str)) = false := by decide) (hd : (a == ("__debug__" : Str)) = false := by decide) (hcd : (a == ("__classdict__" : Str)) = false := by decide) :
    PE X (.Call (.Name x p) [.Lambda params body scope lpos] [] pos) (tM X.K cl W (mLam sub hs Ng.length fb)) := by
  obtain ⟨g, dV, kV, doc, pm, cdv, ct, oc, an, od, osl, hm, hk, lk, hcg, hb⟩ := S.ex
  rw [eb] at lk hb
  subst hq
  exact me_lam hg hm hk lk hcg hb Sg hNg hva hsub (hh g cdv) h0 TF.tb hcode TF.mem TF.one hr L hdef hbind hbody hdb hd hcd
end
section
variable {P : Program} {w : World} {K : PySem.W.Frag} {mg : Str → Option Value} {base : Heap} {cl : CT}
/-- a def's body, walked, where its code object is known -/
abbrev BodyAt (P : Program) (w : World) (K : PySem.W.Frag) (mg : Str → Option Value) (base : Heap) (cl : CT) (k : Nat) (f : Addr) (cdv : Value) (N : List Str) (qual : Str) (scope : Scope) (body : List Stmt) (b : MS) : Prop :=
  ∀ (A : Around) (outer : List Env) (s : Shared) (H : Hp) (E : XK), Room k (A.deeper (PyProof.Rows.envOfC qual scope s.heap.objs.size f cdv)) → PSs (CxD P w K mg base N qual scope f cdv A outer s H E) body (tMS K cl (WD E) b)
theorem fn_mpA {k : Nat} {x qual : Str} {st0 : Stmt} {f : Addr} {N ps : List Str} {b : MS} {oc : Value} {od an : Option Addr} {osl : Array (Option Value)} {dV kV doc pm cdv ct : Value}
    (l : K.lookup f = some ⟨oc, od, .func (PySem.W.fnOf x qual (defArgs st0) (defBody st0) (defScope st0) dV kV doc pm an cdv ct), osl⟩) (c : PySem.W.codeIn K cdv qual = true) (S : FnScope N ps (defScope st0)) (hb : BodyAt P w K mg base cl k f cdv N qual (defScope st0) (defBody st0) b) :
    FnOk P w K mg base (L2.CX P w) (k + 1) f (PySem.W.fnOf x qual (defArgs st0) (defBody st0) (defScope st0) dV kV doc pm an cdv ct) ps (spM K cl ps.length (runB N.length b)) :=
  fn_of l c S (fun vs H Q E h => spM_len vs H Q E h) fun A outer s H vs Q E hr ⟨ρ, st, args, S', r, _, h⟩ => ⟨_, hb A outer s H E hr, body_go (X := CxD P w K mg base N qual (defScope st0) f cdv A outer s H E) (body := defBody st0) S' r h⟩
theorem pss_lock {X : Cx} {st : List Stmt} {t : TS} (h : PSs X st t) : PSs X st (tLock t) := by
  refine ⟨fun pins s σ H D I hw => ?_⟩
  obtain ⟨d, u, hd, mu, hw⟩ := hw
  obtain ⟨od, I1⟩ := I.lock hd mu
  refine thn (h.run pins s σ _ _ I1 (hw od)) fun f s1 q => ?_
  cases f with
  | next => obtain ⟨σ', H', I2, e, q⟩ := q; exact ⟨σ', _, I2.unlock e (I.nofrz hd mu), q⟩
  | brk => obtain ⟨σ', H', I2, e, q⟩ := q; exact ⟨σ', _, I2.unlock e (I.nofrz hd mu), q⟩
  | cont => obtain ⟨σ', H', I2, e, q⟩ := q; exact ⟨σ', _, I2.unlock e (I.nofrz hd mu), q⟩
  | ret v => obtain ⟨x, σ', H', I2, r, e, q⟩ := q; exact ⟨x, σ', _, I2.unlock e (I.nofrz hd mu), r, q⟩
def spLaw (K : PySem.W.Frag) (cl : CT) (m : List PV → Sto → Res PV) (E0 : XK) : Sp := fun vs H Q E => ∃ (a : Addr) (ns : List Int), vs = [.ref a] ∧ SqL K H a (ns.map V.int) ∧ LamX.Tabs cl.tabs H ∧ (∃ s', m [.rls (ns.map .int)] ⟨#[]⟩ = .ok (.bl true) s') ∧ ∀ H', Q (.bl true) H'
theorem tabs_frz {T : List (Addr × Str)} {H : Hp} {a : Addr} {u : HO} {xs : List V} (h : LamX.Tabs T H) (ha : H a = some (.lst xs)) : LamX.Tabs T (upd H a u) := fun p hp => by
  obtain ⟨ps, h1, h2, h3⟩ := h p hp
  refine ⟨ps, ?_, h2, fun pos cv e => ?_⟩
  · rw [upd_ne (ne_of h1 ha (fun z => nomatch z))]; exact h1
  · obtain ⟨c, e1, e2⟩ := h3 pos cv e
    refine ⟨c, e1, ?_⟩
    rw [upd_ne (ne_of e2 ha (fun z => by unfold LamX.CodeO at z; cases z))]; exact e2
theorem law_go {N : List Str} {b : MS} {E : XK} {a : Addr} {ns : List Int} {H : Hp} {D : Ends} (hR : RoL K H a (ns.map V.int)) (hT : LamX.Tabs cl.tabs H) (h : ∃ s', runB N.length b [.rls (ns.map .int)] ⟨#[]⟩ = .ok (.bl true) s')
    (hQ : ∀ H', (∀ b o u, H b = some (.frz o u) → H' b = some (.frz o u)) → D.rt (.bl true) H') : tMS K cl (WD E) b D (L2.start N [.ref a]) H := by
  obtain ⟨s', e⟩ := h
  have S : Sim K cl (fun _ => none) ⟨#[]⟩ H := ⟨fun _ _ _ h => (nomatch h), fun _ _ h => (nomatch h), fun n o h => by
    unfold Sto.get at h
    simp at h, hT⟩
  refine ⟨_, _, _, S, start_rel (.cons (.rls hR (rel_ints ns)) .nil), ?_⟩
  unfold runB at e
  cases q : b (slots N.length [.rls (ns.map .int)]) ⟨#[]⟩ with
  | rt v s =>
    rw [q] at e
    cases e
    intro ρ' H' u l e' S' ru
    cases ru
    exact hQ H' fun b o u z => e'.frz b o u z
  | nx _ _ => rw [q] at e; cases e
  | bk _ _ => rw [q] at e; cases e
  | ct _ _ => rw [q] at e; cases e
  | err _ _ _ => rw [q] at e; cases e
  | stuck => rw [q] at e; cases e
theorem fn_law {k : Nat} {x qual : Str} {st0 : Stmt} {f : Addr} {N : List Str} {p : Str} {b : MS} {oc : Value} {od an : Option Addr} {osl : Array (Option Value)} {dV kV doc pm cdv ct : Value}
    (l : K.lookup f = some ⟨oc, od, .func (PySem.W.fnOf x qual (defArgs st0) (defBody st0) (defScope st0) dV kV doc pm an cdv ct), osl⟩) (c : PySem.W.codeIn K cdv qual = true) (S : FnScope N [p] (defScope st0)) (hb : BodyAt P w K mg base cl k f cdv N qual (defScope st0) (defBody st0) b) :
    FnOk P w K mg base (L2.CX P w) (k + 1) f (PySem.W.fnOf x qual (defArgs st0) (defBody st0) (defScope st0) dV kV doc pm an cdv ct) [p] (spLaw K cl (runB N.length b) fun _ _ _ => False) :=
  fn_of l c S (fun vs H Q E ⟨a, ns, h, _⟩ => by rw [h]; rfl) fun A outer s H vs Q E hr ⟨a, ns, hv, hS, hT, hm, hQ⟩ => by
    subst hv
    have B := hb A outer s H E hr
    rcases hS with (h | h) | h
    · refine ⟨_, pss_lock B, a, .lst (ns.map V.int), h, trivial, fun od => ?_⟩
      exact law_go (.inl ⟨od, upd_same⟩) (tabs_frz hT h) hm fun H' z => ⟨z _ _ _ upd_same, hQ _⟩
    · exact ⟨_, B, law_go (.inl h) hT hm fun H' _ => hQ H'⟩
    · exact ⟨_, B, law_go (.inr h) hT hm fun H' _ => hQ H'⟩
end
end MP
set_option Elab.async false
set_option linter.all false
set_option maxRecDepth 100000
set_option maxHeartbeats 2000000
namespace MP
open PySem PySem.Spec L2
section
variable {X : Cx} {cl : CT} {W : WX} {elt tg iter tg1 iter1 : Expr} {ifs ifs1 : List Expr} {scope : Scope} {own : List (Str × Nat)} {vs1 : List Nat} {pos spos py : Pos} {w w1 : MW} {mg mg1 : MG} {ft ft1 : MT} {fe : ME}
theorem ms_setLc2 {i : Nat} {y : Str} (hc : X.calm = true) (hN : X.N.Nodup) (hy : X.N[i]? = some y) (hyl : X.env.scope.names.lookup y = some .local) (hsw : swapsWith (.ListComp elt [⟨tg, iter, ifs, 0⟩, ⟨tg1, iter1, ifs1, 0⟩] scope pos) (some (.Name y py)) spos.line X.env = pure true)
    (hi : PI X tg iter (tW X.K cl W w)) (ok : BlkOk X.N X.env.scope scope own) (hv : ∀ i ∈ vs1, i ∈ own.map (·.2))
    (hg : ∀ (s : Shared) (H : Hp) (C : Addr) (cc : List (Str × Addr)) (fp : List Addr), PG (X.blk s H scope (compEnvC scope cc C X.env) fp) tg (tMG X.K (own.map (·.2)) mg))
    (ht : ∀ (s : Shared) (H : Hp) (C : Addr) (cc : List (Str × Addr)) (fp : List Addr), PTs (X.blk s H scope (compEnvC scope cc C X.env) fp) ifs (tMT X.K cl W0 ft))
    (hi1 : ∀ (s : Shared) (H : Hp) (C : Addr) (cc : List (Str × Addr)) (fp : List Addr), PI (X.blk s H scope (compEnvC scope cc C X.env) fp) tg1 iter1 (tW X.K cl W0 w1))
    (hg1 : ∀ (s : Shared) (H : Hp) (C : Addr) (cc : List (Str × Addr)) (fp : List Addr), PG (X.blk s H scope (compEnvC scope cc C X.env) fp) tg1 (tMG X.K vs1 mg1))
    (ht1 : ∀ (s : Shared) (H : Hp) (C : Addr) (cc : List (Str × Addr)) (fp : List Addr), PTs (X.blk s H scope (compEnvC scope cc C X.env) fp) ifs1 (tMT X.K cl W0 ft1))
    (he : ∀ (s : Shared) (H : Hp) (C : Addr) (cc : List (Str × Addr)) (fp : List Addr), PE (X.blk s H scope (compEnvC scope cc C X.env) fp) elt (tM X.K cl W0 fe)) (hs : ∀ x, foldedSetIterable iter X.env x = pure x := by intro _; rfl) (hs1 : ∀ env x, foldedSetIterable iter1 env x = pure x := by intro _ _; rfl) :
    PS X (.Assign [.Name y py] (.ListComp elt [⟨tg, iter, ifs, 0⟩, ⟨tg1, iter1, ifs1, 0⟩] scope pos) spos) (tMS X.K cl W (sSet i (mLc2 w mg ft w1 mg1 ft1 fe (own.map (·.2)) vs1))) :=
  (ps_setLc2 hc hN hy hyl hsw hi ok hv hg ht hi1 hg1 ht1 he hs hs1).imp fun D σ H ⟨ρ, st, σp, S, rs, h⟩ =>
    lc2_go (Q := fun x H1 => gName i x σ H1 D.nx) ⟨ρ, st, σp, S, rs, Res.post.imp (toS_post rs h) (fun x st1 ρ1 H1 l1 e1 S1 h1 v rv => nx_now S1 ((rs.mono l1 e1).set i rv) h1) fun _ _ _ z => z⟩
end
theorem exm_mk {K : PySem.W.Frag} {S J : Addr} {b : Bool} (h1 : PySem.W.subIn K (.ref J) (.type "BaseException") = some true) (h2 : PySem.W.isClsIn K J = true) (h3 : PySem.W.typeIn K (.ref J) = some (.type "type")) (h4 : PySem.W.subIn K (.ref S) (.ref J) = some b) :
    PySem.W.exmOne K (.ref S) (.ref J) = some b := by
  have e1 : (PySem.W.subIn K (.ref J) (.type "BaseException") == some true) = true := by rw [h1] <;> rfl
  have e2 : ((PySem.W.clsIn K J).isSome && PySem.W.typeIn K (.ref J) == some (.type "type")) = true := by
    have h2' : (PySem.W.clsIn K J).isSome = true := h2
    rw [h2', h3] <;> rfl
  show (if (PySem.W.subIn K (.ref J) (.type "BaseException") == some true) = true then (if ((PySem.W.clsIn K J).isSome && PySem.W.typeIn K (.ref J) == some (.type "type")) = true then PySem.W.subIn K (.ref S) (.ref J) else none) else none) = some b
  rw [if_pos e1, if_pos e2]
  exact h4
/-- a call that writes every parameter without a default, one keyword-only tail lacks or is written whole -/
theorem kbp_kw0 {K : PySem.W.Frag} {cl : CT} {x qual : Str} {params : Arguments} {body : List Stmt} {scope : Scope} {kws : List (Str × V)} {f : Addr} {fd : FuncData} {ps : List Str} {dps : List PV} {n : Nat} (F : FunD K x qual params body scope [] kws f fd) (hk : kws ≠ []) (hd : ∀ ρ H, RelPs K ρ H dps (kws.map (·.2))) (hn : n + dps.length = ps.length)
    (h : ∀ (D : Addr) (doc pm : Value) (an : Option Addr) (cdv ct : Value) (us mv : List Value), us.length = n → mv.length = kws.length → KwChain D ((kws.map (·.1)).zip mv) (bindArgs (PySem.W.fnOf x qual params body scope .none (.ref D) doc pm an cdv ct) ⟨us, []⟩) (ps.zip (us ++ mv))) :
    KBp K cl fd ps n [] (fun xs _ => xs ++ dps) := by
  obtain ⟨mv, q⟩ := F.kbinds0 (ps := ps) n [] kws (fun us mv _ => us ++ mv) hk (fun _ h => h) (fun r1 r2 _ => r1.append r2) (fun D doc pm an cdv ct us mv ws l1 l2 l3 => by
    cases ws with
    | nil => exact h D doc pm an cdv ct us mv l1 l2
    | cons _ _ => exact nomatch l3)
  exact ⟨_, _, q, fun ρ H xs vs ys zs l1 l2 r1 r2 => ⟨r1.append (hd ρ H), by rw [List.length_append, l1, hn]⟩⟩
theorem kbp_kwA {K : PySem.W.Frag} {cl : CT} {x qual : Str} {params : Arguments} {body : List Stmt} {scope : Scope} {kws : List (Str × V)} {f : Addr} {fd : FuncData} {ps ks : List Str} {n : Nat} (F : FunD K x qual params body scope [] kws f fd) (hk : kws ≠ []) (hn : n + ks.length = ps.length)
    (h : ∀ (D : Addr) (doc pm : Value) (an : Option Addr) (cdv ct : Value) (us ws : List Value), us.length = n → ws.length = ks.length → bindArgs (PySem.W.fnOf x qual params body scope .none (.ref D) doc pm an cdv ct) ⟨us, ks.zip ws⟩ = pure (ps.zip (us ++ ws))) :
    KBp K cl fd ps n ks (fun xs ys => xs ++ ys) := by
  obtain ⟨mv, q⟩ := F.kbinds0 (ps := ps) n ks [] (fun us mv ws => us ++ ws) hk (fun _ h => nomatch h) (fun r1 _ r3 => r1.append r3) (fun D doc pm an cdv ct us mv ws l1 l2 l3 => h D doc pm an cdv ct us ws l1 l3)
  exact ⟨_, _, q, fun ρ H xs vs ys zs l1 l2 r1 r2 => ⟨r1.append r2, by rw [List.length_append, l1, l2, hn]⟩⟩
theorem kbp_dflt {K : PySem.W.Frag} {cl : CT} {x qual : Str} {params : Arguments} {body : List Stmt} {scope : Scope} {dvs : List V} {f : Addr} {fd : FuncData} {ps : List Str} {dps : List PV} {n : Nat} (j : Nat) (F : FunD K x qual params body scope dvs [] f fd) (hd : dvs ≠ []) (hp : ∀ ρ H, RelPs K ρ H dps (dvs.drop j)) (hn : n + dps.length = ps.length)
    (h : ∀ (T : Addr) (kV doc pm : Value) (an : Option Addr) (cdv ct : Value) (us its : List Value), us.length = n → its.length = dvs.length → ∃ k, bindArgs (PySem.W.fnOf x qual params body scope (.ref T) kV doc pm an cdv ct) ⟨us, []⟩ = seqItems? (.ref T) >>= k ∧ k (some its.toArray) = pure (ps.zip (us ++ its.drop j))) :
    KBp K cl fd ps n [] (fun xs _ => xs ++ dps) := by
  have e := (hp (fun _ => none) (fun _ => none)).length
  rw [List.length_drop] at e
  obtain ⟨ds, r, b⟩ := F.binds1 (ps := ps) n j hd (by omega) h
  exact KBp.dflt b r hp hn
theorem all_nil {α : Type} {P : α → Prop} : ∀ y ∈ ([] : List α), P y := fun _ h => absurd h List.not_mem_nil
theorem all_cons {α : Type} {P : α → Prop} {x : α} {l : List α} (h : P x) (t : ∀ y ∈ l, P y) : ∀ y ∈ x :: l, P y := fun y hy => by
  rcases List.mem_cons.mp hy with e | e
  · rw [e]; exact h
  · exact t y e
theorem tabs_empty {cs : List (Addr × Addr)} {T : List (Addr × Str)} {H : Hp} (hH : ∀ p ∈ cs, H p.2 = some (.tbl #[])) (hm : ∀ p ∈ T, ∃ c, (c, p.1) ∈ cs) : LamX.Tabs T H := fun p hp => by
  obtain ⟨c, hc⟩ := hm p hp
  exact ⟨#[], hH _ hc, by trivial, fun pos cv e => by cases e⟩
theorem kbp_all {K : PySem.W.Frag} {cl : CT} {fd : FuncData} {ps : List Str} {n : Nat} (h : KBp K cl fd ps n [] (fun xs _ => xs ++ [])) : KBp K cl fd ps n [] (fun xs _ => xs) := by
  have e : (fun (xs _ : List PV) => xs ++ []) = fun xs _ => xs := by
    funext xs _
    exact List.append_nil xs
  rw [e] at h
  exact h
end MP
set_option Elab.async false
set_option linter.all false
set_option maxRecDepth 100000
set_option maxHeartbeats 2000000
namespace MP
open PySem PySem.Spec L2
section
variable {X : Cx} {cl : CT} {W : WX} {e : Expr} {es : List Expr} {fe : ME} {pos p : Pos} {x : Str}
theorem me_gi {i : Int} (hg : Gl X x) (h : ∃ t, X.mg x = some (.int i t)) (hd : (x == ("__debug__" : Str)) = false := by decide) : PE X (.Name x pos) (tM X.K cl W (mC (.int i))) := by
  obtain ⟨t, hm⟩ := h
  exact me_c (pe_glob (v := .int i) hg hm ⟨t, rfl⟩ hd) fun _ _ => .int i
theorem me_gtup {xs : List PV} (hg : Gl X x) (h : ∃ a vs, X.mg x = some (.ref a) ∧ KTup X.K a vs ∧ ∀ ρ H, RelPs X.K ρ H xs vs) (hd : (x == ("__debug__" : Str)) = false := by decide) : PE X (.Name x pos) (tM X.K cl W (mC (.ktp xs))) := by
  obtain ⟨a, vs, hm, hk, hr⟩ := h
  exact me_c (pe_glob (v := .ref a) hg hm rfl hd) fun ρ H => .ktp hk (hr ρ H)
/-- n1 = n2 = e -/
def sSet2 (i j : Nat) (f : ME) : MS := fun σ st => (f σ st).toS σ fun v st1 => .nx ((σ.set i (some v)).set j (some v)) st1
theorem ms_set2 {t1 t2 : Expr} {i j : Nat} (he : PE X e (tM X.K cl W fe)) (h1 : PG X t1 (tMG X.K [i] (gN i))) (h2 : PG X t2 (tMG X.K [j] (gN j))) (ha : (assignEach [t1, t2] X.env).map (·.2) = [assign t1 X.env, assign t2 X.env] := by rfl) (hw : swappedStores [t1, t2] e X.env = pure none := by rfl) :
    PS X (.Assign [t1, t2] e pos) (tMS X.K cl W (sSet2 i j fe)) :=
  (ps_asg2 he h1 h2 ha hw).imp fun D σ H ⟨ρ, st, σp, S, rs, h⟩ => ⟨ρ, st, σp, S, rs, Res.post.imp (toS_post rs h) (fun v st1 ρ1 H1 l1 e1 S1 h1 vv rv =>
    ⟨ρ1, σp, v, rs.mono l1 e1, rv, _, rfl, fun σ' r' _ => ⟨ρ1, _, v, r', rv, _, rfl, fun σ'' r'' _ => h1 ρ1 H1 σ'' (Le.refl _) (Ext.refl _) S1 r''⟩⟩) fun _ _ _ z => z⟩
end
section
variable {X : Cx} {cl : CT} {W : WX}
/-- d.update(d2), plain keys -/
def gUpdate : PF := fun xs st => match xs with
  | [x, y] => match dctOf x st, keysD y st with
    | some (n, kvs, false), some more => if x ≠ y ∧ kvs.all (fun p => (keyK p.1).isSome) = true ∧ sz (kvs.length + more.length) = true then some (.non, st.set n (.dct (mergeP kvs more) false)) else none
    | _, _ => none
  | _ => none
theorem mr_update : CallR X (.builtin "dict.update") (rG X.K cl gUpdate) := by
  intro pins s σ H vs us Q I r ⟨ρ, st, xs, v, st', S, rs, e, h⟩
  unfold gUpdate at e
  split at e
  · split at e
    · next n kvs more ed em =>
      split at e
      · next hc =>
        cases e
        cases rs with
        | cons rx rr =>
          cases rr with
          | cons ry rr =>
            cases rr
            obtain ⟨rfl, eg, a, rfl, hr⟩ := dctOf_at rx ed
            obtain ⟨b, ws2, rfl, q2, r2⟩ := keysD_at S ry em
            obtain ⟨n2, lk, rfl, eg2, hka2⟩ := keysD_some em
            have hrb : ρ n2 = some b := by cases ry with | ref z => exact z
            have hab : a ≠ b := fun z => hc.1 (by rw [S.inj n n2 a hr (z ▸ hrb)])
            obtain ⟨ws, q, r1⟩ := own_dk S hr eg (kind_of_all hc.2.1)
            obtain ⟨z2, hS2, vs2, rel2, dd2⟩ := dk_rd I.hok q2
            obtain ⟨z1, hS1, vs1, rel1, dd1⟩ := dk_of I.hok q
            obtain ⟨u1, u2, rfl, e1, e2⟩ := vals2 r
            cases e1
            cases e2
            have hz := sz_ok hc.2.2
            have l1 := r1.length
            have l2 := r2.length
            have l3 := rel1.length
            have l4 := rel2.length
            refine call_meetsIn PySem.F.slot_dict_update dd1.typeIs PySem.F.entry_dict_update (PySem.F.args_dict_update_2 _ _) (meets_dict_update (mixKind X.prog X.w) a b hab hS2) ⟨vs1, vs2, dd1, dd2, by omega, fun h' dd' _ hs => ?_⟩
            have he : ∃ q, h'.get? a = some q := let ⟨q, _, _, hq, _⟩ := dd'; ⟨q, hq⟩
            obtain ⟨ex2, S5⟩ := dk_over S hr q (relDk_merge r2 r1)
            have l5 := length_mergeK ws2 ws
            exact ⟨.non, _, d_write (t' := s.toks) I (by rw [q]; exact True.intro) hs he (dk_new (by omega) hS1 (rel2.merge rel1) dd'), rfl, h ρ _ (Le.refl _) ex2 S5 _ .non⟩
      · cases e
    · cases e
  · cases e
/-- d.pop(k, x), plain keys -/
def gDPop2 : PF := fun xs st => match xs with
  | [x, y, z] => match dctOf x st with
    | some (n, kvs, false) => if kindK y = some false ∧ kfit kvs false y = true then (match dgetP kvs y with
        | some v => some (v, st.set n (.dct (ddelP kvs y) false))
        | none => some (z, st)) else none
    | _ => none
  | _ => none
theorem mr_dpop2 : CallR X (.builtin "dict.pop") (rG X.K cl gDPop2) := by
  intro pins s σ H vs us Q I r ⟨ρ, st, xs, v, st', S, rs, e, h⟩
  unfold gDPop2 at e
  split at e
  · split at e
    · next n kvs ed =>
      split at e
      · next hc =>
        cases rs with
        | cons rx rr =>
          cases rr with
          | cons ry rr =>
            cases rr with
            | cons rz rr =>
              cases rr
              obtain ⟨rfl, eg, a, rfl, hr⟩ := dctOf_at rx ed
              cases r with
              | cons r1 r =>
                cases r with
                | cons r2 r =>
                  cases r with
                  | cons r3 r =>
                    cases r
                    cases r1
                    obtain ⟨kx, ek⟩ := kindK_f hc.1
                    have hkk : ∀ p r, kvs = p :: r → kindK p.1 = some false := fun p r z => by
                      subst z
                      have := hc.2
                      unfold kfit at this
                      rw [hc.1] at this
                      exact of_decide_eq_true this
                    obtain ⟨ws, q, r0⟩ := own_dk S hr eg hkk
                    obtain rfl := keyK_val ek ry
                    have rv := relDk_val r0 ek
                    split at e
                    · next w ew =>
                      cases e
                      rw [ew] at rv
                      cases el : valV ws kx with
                      | none => rw [el] at rv; exact rv.elim
                      | some u =>
                        rw [el] at rv
                        obtain ⟨ex2, S5⟩ := dk_over S hr q (relDk_del r0 ek)
                        exact d_pop I q r2 el (.inr ⟨_, rfl⟩) fun w' s3 I3 rw' => ⟨u, _, I3, rw', h ρ _ (Le.refl _) ex2 S5 _ (RelP.mono (Le.refl _) ex2 rv)⟩
                    · next ew =>
                      cases e
                      rw [ew] at rv
                      cases el : valV ws kx with
                      | some u => rw [el] at rv; exact rv.elim
                      | none => exact d_popD I q r2 el fun s3 I3 => ⟨_, H, I3, r3, Res.post.now S h _ rz⟩
      · cases e
    · cases e
  · cases e
end
end MP
set_option Elab.async false
set_option linter.all false
set_option maxRecDepth 100000
set_option maxHeartbeats 2000000
namespace MP
open PySem PySem.Spec L2
section
open PyProof.Rows
variable {X : Cx} {cl : CT}
def rSrtDA : List V → Hp → VK → Prop := fun xs H Q => ∃ (a : Addr) (kvs : List (Key × V)) (ks : List Int), xs = [.ref a] ∧ Rd H a (.dK kvs) ∧ kvs.map (·.1) = ks.map Sum.inl ∧ ∀ (ys : List Int) (p : Addr), ys.Perm ks → ys.Pairwise (· ≤ ·) → H p = none → Q (.ref p) (upd H p (.lst (ys.map V.int)))
theorem call_srtDA (hcalm : X.calm = true) : CallR X (.builtin "sorted") rSrtDA := by
  intro pins s σ H xs us Q I r h
  obtain ⟨a, kvs, ks, rfl, hd, hks, q⟩ := h
  obtain ⟨u, rfl, rx⟩ := vals1 r
  cases rx
  obtain ⟨z, lo, prs, rel, dd⟩ := dk_rd I.hok hd
  obtain ⟨ep, hat⟩ := dd.dictAt
  have keysEq : prs.map (·.1) = ks.map Sum.inl := (rel.keys).symm.trans hks
  have lenEq : prs.length = ks.length := by
    have := congrArg List.length keysEq
    simpa using this
  have small : prs.length ≤ sizeLine := by rw [← rel.length]; exact z
  refine Calls.call_function_entry kind_sorted plain_sorted entry_sorted (args_sorted1 _) ?_
  unfold Builtin.«sorted»
  refine wpAny_bind (m := checkCount "sorted" 1 1 _) (wpAny_pure ?_)
  refine wpAny_bind (PySem.W.kdu_collect (A := X.A.in1) (PySem.W.kdl_dict (knd := mixKind X.prog X.w) (kvs := prs) (ep := ep) lo)
    (I.ok.hd hcalm) hat small fun h1 t1 got kept hgot => ?_)
  have lenGot : got.toList.length = ks.length := by rw [Array.length_toList, hgot.1, lenEq]
  have areInts : IntsAre got.toList ks := by
    refine ints_each lenGot fun j v ej => ?_
    obtain ⟨k0, x0, f1, f2⟩ := hgot.2 j v (by rw [← Array.getElem?_toList]; exact ej)
    have f3 : (prs.map (·.1))[j]? = some k0 := by rw [List.getElem?_map, f1]; rfl
    rw [keysEq, List.getElem?_map] at f3
    obtain ⟨y, f4, f5⟩ := Option.map_eq_some_iff.mp f3
    subst f5
    rcases keyIs_shape (show keyIs (Sum.inl y) v = true from f2) with ⟨i, t, g1, g2⟩ | ⟨z, t, g1, g2⟩
    · cases g1
      exact ⟨y, t, f4, g2⟩
    · cases g1
  have J : Inv X pins σ H { s with heap := h1, toks := t1 } := I.kept kept
  refine wpAny_bind (wpAny_newList ?_ (by rw [lenGot, ← lenEq]; exact small))
  have atL : (h1.push (seqObj "list" got.toList.toArray 0)).get? h1.objs.size = some (seqObj "list" got.toList.toArray 0) := Heap.get?_push_size _ rfl
  show wpAny _ _ _ _ _ { s with heap := h1.push (seqObj "list" got.toList.toArray 0), toks := t1 }
  refine wpAny_bind (wpAny_holding (wpAny_call_entry slot_list_sort ⟨_, atL, rfl⟩ entry_list_sort
    (SrtO.list_sort_ord (s := { s with heap := h1.push (seqObj "list" got.toList.toArray 0), toks := t1 }) SrtO.swo_int atL (by rw [lenGot, ← lenEq]; exact small) (fun h2 => SrtO.ints_sortable areInts h2) fun out o1 o2 => ⟨_, rfl, ?_⟩) (args_list_sort _)))
  obtain ⟨k1, k2, k3⟩ := SrtO.ints_out areInts o1 o2
  obtain ⟨e2, atS⟩ := sortedHeap_at (vs := got.toList) (out := out.toArray) atL
  have lenOut : ((out.map SrtO.iv).map V.int).length ≤ sizeLine := by
    rw [List.length_map, k2.length_eq, ← lenEq]
    exact small
  refine wpAny_pure ⟨_, rfl, .ref h1.objs.size, upd H h1.objs.size (.lst ((out.map SrtO.iv).map V.int)), J.laid (t' := t1) (fun b u eb => ?_) (Nat.le_refl _)
    ⟨lenOut, out, e2, vals_of_ints k1, atS⟩, rfl, q _ _ k2 k3 (J.hok.fresh (Nat.le_refl _))⟩
  have lb : b < h1.objs.size := Heap.lt_size eb
  rw [sortedHeap_old (Nat.ne_of_lt lb) (by rw [size_push']; exact Nat.lt_succ_of_lt lb)]
  exact Heap.get?_push_of_some _ eb
/-- sorted(d), ints, any number of them -/
def srtA (xs : List PV) (st : Sto) : Option (List PV) := match xs with
  | [x] => ((keysD x st).bind fun kvs => intsOf (kvs.map (·.1))).map fun ns => (sortI ns).map .int
  | _ => none
theorem cr_srtA (hc : X.calm = true) : CallR X (.builtin "sorted") (rG X.K cl (gNewL srtA)) := CR_imp (call_srtDA hc) fun ρ st H xs vs v st' Q S rs e h => by
  obtain ⟨ys, ef⟩ := gNewL_some e
  have ef2 := ef
  unfold srtA at ef2
  split at ef2
  · obtain ⟨ns, h1, rfl⟩ := Option.map_eq_some_iff.mp ef2
    obtain ⟨kvs, h2, h3⟩ := Option.bind_eq_some_iff.mp h1
    cases rs with
    | cons rx rr =>
      cases rr
      obtain ⟨a, ws, rfl, h4, h5⟩ := keysD_at S rx h2
      refine ⟨a, ws, ns, rfl, h4, relDk_ints h5 h3, fun ns' p hp hs hn => ?_⟩
      rw [sortI_uniq hp hs]
      exact gNewL_post S e ef h hn (rel_ints _)
  · cases ef2
end
section
variable {X : Cx} {cl : CT} {W : WX} {e : Expr} {es : List Expr} {x : Str} {k n c : Nat} {ks : List Str} {m : List PV → Sto → Res PV} {gP : List PV → List PV → List PV} {g gk : MEs} {kws : List Keyword} {pos p : Pos}
theorem mc_makeK (C : ClsM X.prog X.w X.K X.mg X.base cl k c x n ks m gP) (hr : Room (k + 1) X.A) (hg : Gl X x) (tk : Takes X W) (ha : PA X (e :: es) (tMA X.K cl W g)) (hl : Len g n) (hkw : PK X kws (tMA X.K cl W gk)) (hlk : Len gk ks.length)
    (hall : (backToKw pos (keywordEach kws X.env)).all (·.1.isSome) = true := by rfl) (hks : (backToKw pos (keywordEach kws X.env)).filterMap (·.1) = ks := by rfl) (hdb : (x == ("__debug__" : Str)) = false := by decide)
    (he : starEach (e :: es) X.env = (false, eval e X.env) :: starEach es X.env := by rfl) (hpl : ((backTo pos (starEach (e :: es) X.env)).any (·.1) || (backToKw pos (keywordEach kws X.env)).any (·.1.isNone)) = false := by rfl) :
    PE X (.Call (.Name x p) (e :: es) kws pos) (tM X.K cl W (mMake c m gP g gk)) := by
  obtain ⟨f, fd, ps, F, M, hb⟩ := C.ex
  exact me_makeK M F hr hg C.nm hb tk ha hl hkw hlk hall hks hdb he hpl
end
/-- some of the keyword-only parameters are given, behind those that are not -/
theorem kbp_kwL {K : PySem.W.Frag} {cl : CT} {x qual : Str} {params : Arguments} {body : List Stmt} {scope : Scope} {kws mk : List (Str × V)} {f : Addr} {fd : FuncData} {ps ks : List Str} {dps : List PV} {n : Nat} (F : FunD K x qual params body scope [] kws f fd) (hk : kws ≠ []) (hs : ∀ q ∈ mk, q ∈ kws) (hd : ∀ ρ H, RelPs K ρ H dps (mk.map (·.2))) (hn : n + dps.length + ks.length = ps.length)
    (h : ∀ (D : Addr) (doc pm : Value) (an : Option Addr) (cdv ct : Value) (us mv ws : List Value), us.length = n → mv.length = mk.length → ws.length = ks.length → KwChain D ((mk.map (·.1)).zip mv) (bindArgs (PySem.W.fnOf x qual params body scope .none (.ref D) doc pm an cdv ct) ⟨us, ks.zip ws⟩) (ps.zip (us ++ mv ++ ws))) :
    KBp K cl fd ps n ks (fun xs ys => xs ++ dps ++ ys) := by
  obtain ⟨mv, q⟩ := F.kbinds0 (ps := ps) n ks mk (fun us mv ws => us ++ mv ++ ws) hk hs (fun r1 r2 r3 => (r1.append r2).append r3) (fun D doc pm an cdv ct us mv ws l1 l2 l3 => h D doc pm an cdv ct us mv ws l1 l2 l3)
  exact ⟨_, _, q, fun ρ H xs vs ys zs l1 l2 r1 r2 => ⟨(r1.append (hd ρ H)).append r2, by rw [List.length_append, List.length_append, l1, l2, hn]⟩⟩
end MP
set_option Elab.async false
set_option linter.all false
set_option maxRecDepth 100000
set_option maxHeartbeats 2000000
namespace MP
open PySem PySem.Spec L2
section
variable {X : Cx} {cl : CT} {W : WX} {pos : Pos} {x : Str}
theorem me_gs {i : Str} (hg : Gl X x) (h : ∃ t, X.mg x = some (.str i t)) (hd : (x == ("__debug__" : Str)) = false := by decide) : PE X (.Name x pos) (tM X.K cl W (mC (.str i))) := by
  obtain ⟨t, hm⟩ := h
  exact me_c (pe_glob (v := .str i) hg hm ⟨t, rfl⟩ hd) fun _ _ => .str i
end
/-- keyword-only parameters without defaults, all of them given -/
theorem kbp_kwR {K : PySem.W.Frag} {cl : CT} {x qual : Str} {st : Stmt} {f : Addr} {fd : FuncData} {ps ks : List Str} {n : Nat} (F : Fun K x qual st f fd) (hn : n + ks.length = ps.length)
    (h : ∀ (kV doc pm : Value) (an : Option Addr) (cdv ct : Value) (us ws : List Value), us.length = n → ws.length = ks.length → bindArgs (PySem.W.fnOf x qual (defArgs st) (defBody st) (defScope st) .none kV doc pm an cdv ct) ⟨us, ks.zip ws⟩ = pure (ps.zip (us ++ ws))) :
    KBp K cl fd ps n ks (fun xs ys => xs ++ ys) := by
  obtain ⟨oc, od, kV, doc, pm, an, cdv, ct, osl, rfl, lk, hcd⟩ := F.ex
  refine ⟨fun us ws => us ++ ws, fun vs zs => vs ++ zs, ⟨fun s us ws X l1 l2 => BindsTo.of_looks fun M => ?_, fun r1 r2 => r1.append r2⟩, fun ρ H xs vs ys zs l1 l2 r1 r2 => ⟨r1.append r2, by rw [List.length_append, l1, l2, hn]⟩⟩
  rw [h kV doc pm an cdv ct us ws l1 l2]
  exact .of_pure rfl
end MP
set_option Elab.async false
set_option linter.all false
set_option maxRecDepth 100000
set_option maxHeartbeats 4000000
namespace LW
open PySem PySem.Spec L2 MP
def top (i : Nat) : Stmt := PySem.Challenge.pw_pageclass_k05_gaps.main.body.getD i (.Pass ⟨0, 0, 0, 0⟩)
abbrev fl_6 : List Str := ["rights", "shared", "source", "index", "flags", "held", "stamp"]
abbrev fl_7 : List Str := ["system", "inside", "outside", "dirty", "faults", "swap_outs", "write_backs"]
abbrev fl_8 : List Str := ["row", "index", "locked", "has_crashed", "has_merged", "distances", "touched", "touches", "since", "outs", "backs", "backs_from", "slots", "dirty", "disks"]
abbrev fl_9 : List Str := ["frames", "slots", "strict", "spaces", "objects", "catalogue", "disks", "step", "last_process", "last_object", "last_item", "most_locked", "stack", "memory"]
section
abbrev subT : List ((Nat × Nat) × Bool) := [((0, 0), true), ((0, 1), false), ((0, 2), false), ((0, 3), false), ((0, 4), false), ((0, 5), false), ((1, 0), true), ((1, 1), true), ((1, 2), false), ((1, 3), false), ((1, 4), false), ((1, 5), false), ((2, 0), true), ((2, 1), false), ((2, 2), true), ((2, 3), false), ((2, 4), false), ((2, 5), false), ((3, 0), true), ((3, 1), false), ((3, 2), false), ((3, 3), true), ((3, 4), false), ((3, 5), false), ((4, 0), true), ((4, 1), false), ((4, 2), false), ((4, 3), false), ((4, 4), true), ((4, 5), false), ((5, 0), true), ((5, 1), false), ((5, 2), false), ((5, 3), false), ((5, 4), false), ((5, 5), true)]
abbrev s__law_said : Stmt := (top 58)
abbrev N__law_said : List Str := ["ask", "e"]
abbrev hs__law_said : List HdP := [(3, some 1, sxPair 1 "part" 3 "part"), (2, some 1, sxPair 1 "process" 2 "process"), (0, none, fun _ => (sRet (mTup (mCons (mC (.str "other")) (mCons (mC .non) mNil)))))]
abbrev s_Memory___init__ : Stmt := (inClass (top 45) 0)
abbrev N_Memory___init__ : List Str := ["self", "system"]
def b_Memory___init__ : MS :=
    (sSeq (sFldM 7 "system" (mVar 0) (mVar 1))
    (sSeq (sFldM 7 "inside" (mVar 0) mDict0)
    (sSeq (sFldM 7 "outside" (mVar 0) mDict0)
    (sSeq (sFldM 7 "dirty" (mVar 0) mDict0)
    (sSeq (sFldM 7 "faults" (mVar 0) (mC (.int 0)))
    (sSeq (sFldM 7 "swap_outs" (mVar 0) (mC (.int 0)))
    (sFldM 7 "write_backs" (mVar 0) (mC (.int 0)))))))))
def p_Memory___init__ : List PV → Sto → Res PV := runB 2 b_Memory___init__
def gp_Memory___init__ : List PV → List PV → List PV := fun xs _ => xs
abbrev s_Stack___init__ : Stmt := (inClass (top 47) 0)
abbrev N_Stack___init__ : List Str := ["self"]
def b_Stack___init__ : MS :=
    (sSeq (sFldM 8 "row" (mVar 0) (mLst mNil))
    (sSeq (sFldM 8 "index" (mVar 0) mDict0)
    (sSeq (sFldM 8 "locked" (mVar 0) (mC (.int 0)))
    (sSeq (sFldM 8 "has_crashed" (mVar 0) (mC (.bl false)))
    (sSeq (sFldM 8 "has_merged" (mVar 0) (mC (.bl false)))
    (sSeq (sFldM 8 "distances" (mVar 0) (mLst mNil))
    (sSeq (sFldM 8 "touched" (mVar 0) (mLst mNil))
    (sSeq (sFldM 8 "touches" (mVar 0) (mLst mNil))
    (sSeq (sFldM 8 "since" (mVar 0) mDict0)
    (sSeq (sFldM 8 "outs" (mVar 0) mDict0)
    (sSeq (sFldM 8 "backs" (mVar 0) mDict0)
    (sSeq (sFldM 8 "backs_from" (mVar 0) mDict0)
    (sSeq (sFldM 8 "slots" (mVar 0) (mLst mNil))
    (sSeq (sFldM 8 "dirty" (mVar 0) mDict0)
    (sFldM 8 "disks" (mVar 0) mDict0)))))))))))))))
def p_Stack___init__ : List PV → Sto → Res PV := runB 1 b_Stack___init__
def gp_Stack___init__ : List PV → List PV → List PV := fun xs _ => xs
abbrev s_is_integer : Stmt := (top 20)
abbrev N_is_integer : List Str := ["thing"]
def b_is_integer : MS :=
    (sRet (mAnd (mB gIsi (mCons (mVar 0) (mCons (mC (.ty "int")) mNil))) (mNot (mB gIsi (mCons (mVar 0) (mCons (mC (.ty "bool")) mNil))))))
def p_is_integer : List PV → Sto → Res PV := runB 1 b_is_integer
def gp_is_integer : List PV → List PV → List PV := fun xs _ => xs
abbrev s_is_between : Stmt := (top 21)
abbrev N_is_between : List Str := ["thing", "low", "high"]
def b_is_between : MS :=
    (sRet (mAnd (mCall p_is_integer gp_is_integer (mCons (mVar 0) mNil)) (mChain oLe oLe (mVar 1) (mVar 0) (mVar 2))))
def p_is_between : List PV → Sto → Res PV := runB 3 b_is_between
def gp_is_between : List PV → List PV → List PV := fun xs _ => xs
abbrev s_System___init__ : Stmt := (inClass (top 49) 0)
abbrev N_System___init__ : List Str := ["self", "frames", "slots", "strict"]
def b_System___init__ : MS :=
    (sSeq (sIf (mAndT (mTru (mOp oNotN (mVar 1) (mC .non))) (mNotT (mTru (mCall p_is_between gp_is_between (mCons (mVar 1) (mCons (mC (.int 1)) (mCons (mC (.int 64)) mNil)))))))
    (sRaise1 1 "part" (mC (.str "frames")))
    sSkip)
    (sSeq (sIf (mAndT (mTru (mOp oNotN (mVar 2) (mC .non))) (mNotT (mTru (mCall p_is_between gp_is_between (mCons (mVar 2) (mCons (mC (.int 0)) (mCons (mC (.int 256)) mNil)))))))
    (sRaise1 1 "part" (mC (.str "slots")))
    sSkip)
    (sSeq (sIf (mOrT (mNotT (mTru (mB gIsi (mCons (mVar 3) (mCons (mC (.ty "bool")) mNil))))) (mAndT (mTru (mVar 3)) (mOrT (mTru (mOp oIsN (mVar 1) (mC .non))) (mTru (mOp oIsN (mVar 2) (mC .non))))))
    (sRaise1 1 "part" (mC (.str "strict")))
    sSkip)
    (sSeq (sFldM 9 "frames" (mVar 0) (mVar 1))
    (sSeq (sFldM 9 "slots" (mVar 0) (mVar 2))
    (sSeq (sFldM 9 "strict" (mVar 0) (mVar 3))
    (sSeq (sFldM 9 "spaces" (mVar 0) mDict0)
    (sSeq (sFldM 9 "objects" (mVar 0) mDict0)
    (sSeq (sFldM 9 "catalogue" (mVar 0) mDict0)
    (sSeq (sFldM 9 "disks" (mVar 0) mDict0)
    (sSeq (sFldM 9 "step" (mVar 0) (mC (.int 0)))
    (sSeq (sFldM 9 "last_process" (mVar 0) (mC (.int 0)))
    (sSeq (sFldM 9 "last_object" (mVar 0) (mC (.int 0)))
    (sSeq (sFldM 9 "last_item" (mVar 0) (mC (.int 0)))
    (sSeq (sFldM 9 "most_locked" (mVar 0) (mC (.int 0)))
    (sSeq (sFldM 9 "stack" (mVar 0) (mMake 8 p_Stack___init__ gp_Stack___init__ mNil mNil))
    (sFldM 9 "memory" (mVar 0) (mMake 7 p_Memory___init__ gp_Memory___init__ (mCons (mVar 0) mNil) mNil))))))))))))))))))
def p_System___init__ : List PV → Sto → Res PV := runB 4 b_System___init__
def gp_System___init___k0 : List PV → List PV → List PV := fun xs _ => xs ++ [.non, .non, (.bl false)]
abbrev s__law_draw : Stmt := (top 55)
abbrev N__law_draw : List Str := ["well", "many", "digit", "prime", "number"]
def b__law_draw : MS :=
    (sSeq (sIf (mTru (mOp oGt (mIx (mVar 0) (mC (.int 0))) (mC (.int 0))))
    (sSeq (sSet 2 (mOp oMod (mB gInt (mCons (mIx (mVar 0) (mC (.int 0))) mNil)) (mVar 1)))
    (sSeq (sSetIx (mVar 0) (mC (.int 0)) (mOp oDiv (mIx (mVar 0) (mC (.int 0))) (mVar 1)))
    (sRet (mVar 2))))
    sSkip)
    (sSeq (sSetIx (mVar 0) (mC (.int 2)) (mOp oAdd (mIx (mVar 0) (mC (.int 2))) (mC (.int 1))))
    (sSeq (sSet 3 (mIx (mLst (mCons (mC (.int 2147483647)) (mCons (mC (.int 2147483629)) (mCons (mC (.int 2147483587)) (mCons (mC (.int 2147483579)) (mCons (mC (.int 2147483563)) (mCons (mC (.int 2147483549)) (mCons (mC (.int 2147483543)) mNil)))))))) (mOp oMod (mB gInt (mCons (mIx (mVar 0) (mC (.int 2))) mNil)) (mC (.int 7)))))
    (sSeq (sSet 4 (mOp oMod (mB gInt (mCons (mOp oPow (mOp oAdd (mOp oAdd (mIx (mVar 0) (mC (.int 1))) (mOp oMul (mC (.int 7919)) (mIx (mVar 0) (mC (.int 2))))) (mC (.int 1))) (mC (.int 5))) mNil)) (mVar 3)))
    (sSeq (sSet 4 (mOp oMod (mB gInt (mCons (mOp oMul (mOp oAdd (mVar 4) (mIx (mVar 0) (mC (.int 2)))) (mOp oAdd (mOp oDiv (mVar 4) (mC (.int 1009))) (mC (.int 69621)))) mNil)) (mVar 3)))
    (sRet (mOp oMod (mB gInt (mCons (mOp oDiv (mVar 4) (mC (.int 7))) mNil)) (mVar 1))))))))
def p__law_draw : List PV → Sto → Res PV := runB 5 b__law_draw
def gp__law_draw : List PV → List PV → List PV := fun xs _ => xs
abbrev s__law_fits : Stmt := (top 57)
abbrev N__law_fits : List Str := ["space", "many", "free", "page"]
def b__law_fits : MS :=
    (sSeq (sSet 2 (mC (.int 0)))
    (sSeq (sFor (mwR1 (mCons (mC (.int 512)) mNil)) (gN 3)
    (sSeq (sSet 2 (mOp oAdd (mVar 2) (mC (.int 1))))
    (sSeq (sIf (mTru (mOp (oIn false) (mVar 3) (mVar 0)))
    (sSet 2 (mC (.int 0)))
    sSkip)
    (sIf (mTru (mOp oEq (mVar 2) (mVar 1)))
    (sRet (mOp oAdd (mOp oSub (mVar 3) (mVar 1)) (mC (.int 1))))
    sSkip))))
    (sRet (mC .non))))
def p__law_fits : List PV → Sto → Res PV := runB 4 b__law_fits
def gp__law_fits : List PV → List PV → List PV := fun xs _ => xs
abbrev s__law_one : Stmt := (top 56)
abbrev N__law_one : List Str := ["well", "some"]
def b__law_one : MS :=
    (sRet (mIx (mVar 1) (mCall p__law_draw gp__law_draw (mCons (mVar 0) (mCons (mB gLen (mCons (mVar 1) mNil)) mNil)))))
def p__law_one : List PV → Sto → Res PV := runB 2 b__law_one
def gp__law_one : List PV → List PV → List PV := fun xs _ => xs
abbrev s_check_process : Stmt := (top 25)
abbrev N_check_process : List Str := ["system", "process"]
def b_check_process : MS :=
    (sIf (mOrT (mNotT (mTru (mCall p_is_integer gp_is_integer (mCons (mVar 1) mNil)))) (mTru (mOp (oIn true) (mVar 1) (mFld 9 "spaces" (mVar 0)))))
    (sRaise1 2 "process" (mVar 1))
    sSkip)
def p_check_process : List PV → Sto → Res PV := runB 2 b_check_process
def gp_check_process : List PV → List PV → List PV := fun xs _ => xs
abbrev s_gap_in : Stmt := (top 36)
abbrev N_gap_in : List Str := ["space", "count", "free", "page"]
def b_gap_in : MS :=
    (sSeq (sSet 2 (mC (.int 0)))
    (sSeq (sFor (mwR1 (mCons (mC (.int 512)) mNil)) (gN 3)
    (sSeq (sSet 2 (mIf (mTru (mOp (oIn false) (mVar 3) (mVar 0))) (mC (.int 0)) (mOp oAdd (mVar 2) (mC (.int 1)))))
    (sIf (mTru (mOp oEq (mVar 2) (mVar 1)))
    (sRet (mOp oAdd (mOp oSub (mVar 3) (mVar 1)) (mC (.int 1))))
    sSkip)))
    (sRet (mC .non))))
def p_gap_in : List PV → Sto → Res PV := runB 4 b_gap_in
def gp_gap_in : List PV → List PV → List PV := fun xs _ => xs
abbrev s_gap : Stmt := (top 37)
abbrev N_gap : List Str := ["system", "process", "count"]
def b_gap : MS :=
    (sSeq (sExpr (mCall p_check_process gp_check_process (mCons (mVar 0) (mCons (mVar 1) mNil))))
    (sSeq (sIf (mNotT (mTru (mCall p_is_between gp_is_between (mCons (mVar 2) (mCons (mC (.int 1)) (mCons (mC (.int 512)) mNil))))))
    (sRaise1 3 "part" (mC (.str "count")))
    sSkip)
    (sRet (mCall p_gap_in gp_gap_in (mCons (mIx (mFld 9 "spaces" (mVar 0)) (mVar 1)) (mCons (mVar 2) mNil))))))
def p_gap : List PV → Sto → Res PV := runB 3 b_gap
def gp_gap : List PV → List PV → List PV := fun xs _ => xs
abbrev s_Mapped___init__ : Stmt := (inClass (top 16) 0)
abbrev N_Mapped___init__ : List Str := ["self", "rights", "shared", "source", "index", "stamp"]
def b_Mapped___init__ : MS :=
    (sSeq (sFldM 6 "rights" (mVar 0) (mVar 1))
    (sSeq (sFldM 6 "shared" (mVar 0) (mVar 2))
    (sSeq (sFldM 6 "source" (mVar 0) (mVar 3))
    (sSeq (sFldM 6 "index" (mVar 0) (mVar 4))
    (sSeq (sFldM 6 "flags" (mVar 0) (mTup mNil))
    (sSeq (sFldM 6 "held" (mVar 0) (mC .non))
    (sFldM 6 "stamp" (mVar 0) (mVar 5))))))))
def p_Mapped___init__ : List PV → Sto → Res PV := runB 6 b_Mapped___init__
def gp_Mapped___init___kstamp : List PV → List PV → List PV := fun xs ys => xs ++ ys
abbrev s_Stack_put : Stmt := (inClass (top 47) 3)
abbrev N_Stack_put : List Str := ["self", "at", "item"]
def b_Stack_put : MS :=
    (sSeq (sSetIx (mFld 8 "row" (mVar 0)) (mVar 1) (mVar 2))
    (sIf (mTru (mOp oNotN (mVar 2) (mC .non)))
    sStuck
    sSkip))
def p_Stack_put : List PV → Sto → Res PV := runB 3 b_Stack_put
def gp_Stack_put : List PV → List PV → List PV := fun xs _ => xs
abbrev s_Stack_relock : Stmt := (inClass (top 47) 18)
abbrev N_Stack_relock : List Str := ["self", "locked", "some", "item", "stay", "loose", "new", "end", "row", "at"]
def b_Stack_relock : MS :=
    (sSeq (sLocks (idE (mSl (mFld 8 "row" (mVar 0)) moNone (moSome (mFld 8 "locked" (mVar 0))))) (sSet 2 (mLc (mwE (mSl (mFld 8 "row" (mVar 0)) moNone (moSome (mFld 8 "locked" (mVar 0))))) (gN 3) (mTru (mOp oNotN (mVar 3) (mC .non))) (mVar 3) [3])))
    (sSeq (sLocks (idE (mVar 2)) (sSet 4 (mLc (mwE (mVar 2)) (gN 3) (mTru (mOp (oIn false) mStuck (mVar 1))) (mVar 3) [3])))
    (sSeq (sLocks (idE (mVar 2)) (sSet 5 (mLc (mwE (mVar 2)) (gN 3) (mTru (mOp (oIn true) mStuck (mVar 1))) (mVar 3) [3])))
    (sSeq (sLocks (idE (mSl (mFld 8 "row" (mVar 0)) (moSome (mFld 8 "locked" (mVar 0))) moNone)) (sSet 6 (mLc (mwE (mSl (mFld 8 "row" (mVar 0)) (moSome (mFld 8 "locked" (mVar 0))) moNone)) (gN 3) (mAndT (mTru (mOp oNotN (mVar 3) (mC .non))) (mTru (mOp (oIn false) mStuck (mVar 1)))) (mVar 3) [3])))
    (sSeq (sSet 7 (mOp oAdd (mFld 8 "locked" (mVar 0)) (mB gLen (mCons (mVar 6) mNil))))
    (sSeq (sSet 8 (mOp oAdd (mOp oAdd (mVar 4) (mVar 6)) (mVar 5)))
    (sSeq (sFor (mwR1 (mCons (mVar 7) mNil)) (gN 9)
    (sExpr (mMeth 8 p_Stack_put gp_Stack_put (mVar 0) (mCons (mVar 9) (mCons (mIf (mTru (mOp oLt (mVar 9) (mB gLen (mCons (mVar 8) mNil)))) (mIx (mVar 8) (mVar 9)) (mC .non)) mNil)))))
    (sSeq (sLock (mVar 5) (sFor (mwE (mVar 5)) (gN 3)
    sStuck))
    (sFldM 8 "locked" (mVar 0) (mOp oAdd (mB gLen (mCons (mVar 4) mNil)) (mB gLen (mCons (mVar 6) mNil))))))))))))
def p_Stack_relock : List PV → Sto → Res PV := runB 10 b_Stack_relock
def gp_Stack_relock : List PV → List PV → List PV := fun xs _ => xs
abbrev s_System_locked_items : Stmt := (inClass (top 49) 4)
abbrev N_System_locked_items : List Str := ["self", "pages", "space", "mapped"]
def b_System_locked_items : MS :=
    (sSeq (sLocks (idE2 (mFld 9 "spaces" (mVar 0))) (sSet 1 (mLc2 (mwDict (fun l => l.map (·.2)) (mFld 9 "spaces" (mVar 0))) (gN 2) mtYes (mwDict (fun l => l.map (·.2)) (mVar 2)) (gN 3) (mTru (mOp (oIn false) (mC (.str "lock")) (mFld 6 "flags" (mVar 3)))) (mVar 3) [2, 3] [3])))
    (sRet (mLock (idE (mVar 1)) (mDc (mwE (mVar 1)) (gN 3) mtYes mStuck (mC (.bl true)) [3]))))
def p_System_locked_items : List PV → Sto → Res PV := runB 4 b_System_locked_items
def gp_System_locked_items : List PV → List PV → List PV := fun xs _ => xs
abbrev s_System_locked_pages : Stmt := (inClass (top 49) 3)
abbrev N_System_locked_pages : List Str := ["self", "space", "mapped"]
def b_System_locked_pages : MS :=
    (sRet (mB (gL1 sumL) (mCons (mLock (idE2 (mFld 9 "spaces" (mVar 0))) (mLc2 (mwDict (fun l => l.map (·.2)) (mFld 9 "spaces" (mVar 0))) (gN 1) mtYes (mwDict (fun l => l.map (·.2)) (mVar 1)) (gN 2) (mTru (mOp (oIn false) (mC (.str "lock")) (mFld 6 "flags" (mVar 2)))) (mC (.int 1)) [1, 2] [2])) mNil)))
def p_System_locked_pages : List PV → Sto → Res PV := runB 3 b_System_locked_pages
def gp_System_locked_pages : List PV → List PV → List PV := fun xs _ => xs
abbrev s_System_settle : Stmt := (inClass (top 49) 5)
abbrev N_System_settle : List Str := ["self"]
def b_System_settle : MS :=
    (sSeq (sFldM 9 "most_locked" (mVar 0) (mB (gOr gMax2 (gL1 maxL)) (mCons (mFld 9 "most_locked" (mVar 0)) (mCons (mMeth 9 p_System_locked_pages gp_System_locked_pages (mVar 0) mNil) mNil))))
    (sExpr (mMeth 8 p_Stack_relock gp_Stack_relock (mFld 9 "stack" (mVar 0)) (mCons (mMeth 9 p_System_locked_items gp_System_locked_items (mVar 0) mNil) mNil))))
def p_System_settle : List PV → Sto → Res PV := runB 1 b_System_settle
def gp_System_settle : List PV → List PV → List PV := fun xs _ => xs
abbrev s_sorted_pages : Stmt := (top 28)
abbrev N_sorted_pages : List Str := ["space", "page"]
def b_sorted_pages : MS :=
    (sRet (mLc (mwE (mB (gOr (gNewL srtL) (gNewL srtA)) (mCons (mVar 0) mNil))) (gN 1) mtYes (mTup (mCons (mVar 1) (mCons (mIx (mVar 0) (mVar 1)) mNil))) [1]))
def p_sorted_pages : List PV → Sto → Res PV := runB 2 b_sorted_pages
def gp_sorted_pages : List PV → List PV → List PV := fun xs _ => xs
abbrev s_places : Stmt := (top 27)
abbrev N_places : List Str := ["system", "found", "process", "page", "mapped"]
def b_places : MS :=
    (sSeq (sSet 1 (mLst mNil))
    (sSeq (sFor (mwE (mB (gOr (gNewL srtL) (gNewL srtA)) (mCons (mFld 9 "spaces" (mVar 0)) mNil))) (gN 2)
    (sExpr (mBM tpL gExtend (mVar 1) (mCons (mLc (mwE (mCall p_sorted_pages gp_sorted_pages (mCons (mIx (mFld 9 "spaces" (mVar 0)) (mVar 2)) mNil))) (gT 2 (gsCons (gN 3) (gsCons (gN 4) gsNil))) mtYes (mTup (mCons (mTup (mCons (mVar 2) (mCons (mVar 3) mNil))) (mCons (mVar 4) mNil))) [3, 4]) mNil))))
    (sRet (mVar 1))))
def p_places : List PV → Sto → Res PV := runB 5 b_places
def gp_places : List PV → List PV → List PV := fun xs _ => xs
abbrev s_tidy : Stmt := (top 31)
abbrev N_tidy : List Str := ["system", "named", "place", "mapped", "number", "index"]
def b_tidy : MS :=
    (sSeq (sSet 1 mDict0)
    (sSeq (sFor (mwE (mCall p_places gp_places (mCons (mVar 0) mNil))) (gT 2 (gsCons (gN 2) (gsCons (gN 3) gsNil)))
    (sIf (mAndT (mTru (mOp oNotN (mFld 6 "source" (mVar 3)) (mC .non))) (mTru (mOp oEq (mIx (mFld 6 "source" (mVar 3)) (mC (.int 0))) (mC (.str "object")))))
    sStuck
    sSkip))
    (sSeq (sFor (mwE (mB (gOr (gNewL lisL) (gOr (gNewL lisD) (gNewL lisT))) (mCons (mFld 9 "objects" (mVar 0)) mNil))) (gN 4)
    (sSeq (sFor (mwE (mB (gOr (gNewL lisL) (gOr (gNewL lisD) (gNewL lisT))) (mCons (mIx (mFld 9 "objects" (mVar 0)) (mVar 4)) mNil))) (gN 5)
    (sIf (mTru (mOp (oIn true) (mVar 5) (mBM tpD gGet2 (mVar 1) (mCons (mVar 4) (mCons mDict0 mNil)))))
    sStuck
    sSkip))
    (sIf (mTru (mOp (oIn true) (mVar 4) (mVar 1)))
    (sDel (mFld 9 "objects" (mVar 0)) (mVar 4))
    sSkip)))
    (sExpr (mMeth 9 p_System_settle gp_System_settle (mVar 0) mNil)))))
def p_tidy : List PV → Sto → Res PV := runB 6 b_tidy
def gp_tidy : List PV → List PV → List PV := fun xs _ => xs
abbrev s_System_done : Stmt := (inClass (top 49) 6)
abbrev N_System_done : List Str := ["self"]
def b_System_done : MS :=
    (sSeq (sExpr (mCall p_tidy gp_tidy (mCons (mVar 0) mNil)))
    (sFldAdd 9 "step" (mVar 0) (mC (.int 1))))
def p_System_done : List PV → Sto → Res PV := runB 1 b_System_done
def gp_System_done : List PV → List PV → List PV := fun xs _ => xs
abbrev s_check_charge : Stmt := (top 14)
abbrev N_check_charge : List Str := ["system", "spaces", "sizes", "after"]
def b_check_charge : MS :=
    (sSeq (sIf (mNotT (mTru (mFld 9 "strict" (mVar 0))))
    sRetN
    sSkip)
    sStuck)
def p_check_charge : List PV → Sto → Res PV := runB 4 b_check_charge
def gp_check_charge_d2 : List PV → List PV → List PV := fun xs _ => xs ++ [.non]
abbrev s_check_rights : Stmt := (top 34)
abbrev N_check_rights : List Str := ["rights"]
def b_check_rights : MS :=
    (sIf (mOrT (mNotT (mTru (mB gIsi (mCons (mVar 0) (mCons (mC (.ty "str")) mNil))))) (mTru (mOp (oIn true) (mVar 0) (mC (.ktp [(.str "none"), (.str "r"), (.str "rw")])))))
    (sRaise1 3 "part" (mC (.str "rights")))
    sSkip)
def p_check_rights : List PV → Sto → Res PV := runB 1 b_check_rights
def gp_check_rights : List PV → List PV → List PV := fun xs _ => xs
abbrev s_is_name : Stmt := (top 22)
abbrev N_is_name : List Str := ["thing", "letter"]
def b_is_name : MS :=
    (sRet (mAnd (mB gIsi (mCons (mVar 0) (mCons (mC (.ty "str")) mNil))) (mAnd (mChain oLe oLe (mC (.int 1)) (mB gLen (mCons (mVar 0) mNil)) (mC (.int 8))) (mB (gL1 allL) (mCons (mLock (idE (mVar 0)) (mLc (mwE (mVar 0)) (gN 1) mtYes (mOp (oIn false) (mVar 1) (mC (.str "abcdefghijklmnopqrstuvwxyz"))) [1])) mNil)))))
def p_is_name : List PV → Sto → Res PV := runB 2 b_is_name
def gp_is_name : List PV → List PV → List PV := fun xs _ => xs
abbrev s_check_source : Stmt := (top 35)
abbrev N_check_source : List Str := ["system", "source", "shared", "sort", "name"]
def b_check_source : MS :=
    (sSeq (sIf (mTru (mOp oIsN (mVar 1) (mC .non)))
    sRetN
    sSkip)
    (sSeq (sIf (mOrT (mNotT (mTru (mB gIsi (mCons (mVar 1) (mCons (mC (.ty "tuple")) mNil))))) (mTru (mOp oNe (mB gLen (mCons (mVar 1) mNil)) (mC (.int 2)))))
    (sRaise1 3 "part" (mC (.str "source")))
    sSkip)
    (sSeq (sAsg (gT 2 (gsCons (gN 3) (gsCons (gN 4) gsNil))) (mVar 1))
    (sIf (mAndT (mTru (mB gIsi (mCons (mVar 3) (mCons (mC (.ty "str")) mNil)))) (mTru (mOp oEq (mVar 3) (mC (.str "file")))))
    (sIf (mOrT (mNotT (mTru (mCall p_is_name gp_is_name (mCons (mVar 4) mNil)))) (mTru (mOp (oIn true) (mVar 4) (mFld 9 "catalogue" (mVar 0)))))
    (sRaise1 4 "name" (mVar 4))
    sSkip)
    (sIf (mOrT (mNotT (mTru (mB gIsi (mCons (mVar 3) (mCons (mC (.ty "str")) mNil))))) (mOrT (mTru (mOp oNe (mVar 3) (mC (.str "object")))) (mNotT (mTru (mVar 2)))))
    (sRaise1 3 "part" (mC (.str "source")))
    (sIf (mOrT (mNotT (mTru (mCall p_is_integer gp_is_integer (mCons (mVar 4) mNil)))) (mTru (mOp (oIn true) (mVar 4) (mFld 9 "objects" (mVar 0)))))
    (sRaise1 3 "part" (mC (.str "source")))
    sSkip))))))
def p_check_source : List PV → Sto → Res PV := runB 5 b_check_source
def gp_check_source : List PV → List PV → List PV := fun xs _ => xs
abbrev s_place_for : Stmt := (top 39)
abbrev N_place_for : List Str := ["space", "count", "at"]
def b_place_for : MS :=
    (sSeq (sIf (mTru (mOp oIsN (mVar 2) (mC .non)))
    (sSet 2 (mCall p_gap_in gp_gap_in (mCons (mVar 0) (mCons (mVar 1) mNil))))
    sSkip)
    (sSeq (sIf (mNotT (mTru (mCall p_is_between gp_is_between (mCons (mVar 2) (mCons (mC (.int 0)) (mCons (mOp oSub (mC (.int 512)) (mVar 1)) mNil))))))
    (sRaise1 3 "part" (mC (.str "at")))
    sSkip)
    (sRet (mVar 2))))
def p_place_for : List PV → Sto → Res PV := runB 3 b_place_for
def gp_place_for : List PV → List PV → List PV := fun xs _ => xs
abbrev s_let_go : Stmt := (top 29)
abbrev N_let_go : List Str := ["system", "place", "mapped", "item"]
def b_let_go : MS :=
    (sSeq (sSet 2 (mIx (mIx (mFld 9 "spaces" (mVar 0)) (mIx (mVar 1) (mC (.int 0)))) (mIx (mVar 1) (mC (.int 1)))))
    (sSeq (sSet 3 (mFld 6 "held" (mVar 2)))
    (sSeq (sIf (mTru (mOp oIsN (mVar 3) (mC .non)))
    sRetN
    sSkip)
    (sSeq (sFldM 6 "held" (mVar 2) (mC .non))
    sStuck))))
def p_let_go : List PV → Sto → Res PV := runB 4 b_let_go
def gp_let_go : List PV → List PV → List PV := fun xs _ => xs
abbrev s_remove : Stmt := (top 30)
abbrev N_remove : List Str := ["system", "place"]
def b_remove : MS :=
    (sSeq (sExpr (mCall p_let_go gp_let_go (mCons (mVar 0) (mCons (mVar 1) mNil))))
    (sDel (mIx (mFld 9 "spaces" (mVar 0)) (mIx (mVar 1) (mC (.int 0)))) (mIx (mVar 1) (mC (.int 1)))))
def p_remove : List PV → Sto → Res PV := runB 2 b_remove
def gp_remove : List PV → List PV → List PV := fun xs _ => xs
abbrev s_map_pages : Stmt := (top 40)
abbrev N_map_pages : List Str := ["system", "process", "count", "rights", "shared", "source", "index", "at", "is_new", "fresh", "k", "page"]
def b_map_pages : MS :=
    (sSeq (sExpr (mCall p_check_process gp_check_process (mCons (mVar 0) (mCons (mVar 1) mNil))))
    (sSeq (sIf (mNotT (mTru (mCall p_is_between gp_is_between (mCons (mVar 2) (mCons (mC (.int 1)) (mCons (mC (.int 512)) mNil))))))
    (sRaise1 3 "part" (mC (.str "count")))
    sSkip)
    (sSeq (sExpr (mCall p_check_rights gp_check_rights (mCons (mVar 3) mNil)))
    (sSeq (sIf (mNotT (mTru (mB gIsi (mCons (mVar 4) (mCons (mC (.ty "bool")) mNil)))))
    (sRaise1 3 "part" (mC (.str "shared")))
    sSkip)
    (sSeq (sExpr (mCall p_check_source gp_check_source (mCons (mVar 0) (mCons (mVar 5) (mCons (mVar 4) mNil)))))
    (sSeq (sIf (mOrT (mNotT (mTru (mCall p_is_between gp_is_between (mCons (mVar 6) (mCons (mC (.int 0)) (mCons (mOp oSub (mC (.int 512)) (mVar 2)) mNil)))))) (mAndT (mTru (mOp oIsN (mVar 5) (mC .non))) (mTru (mOp oNe (mVar 6) (mC (.int 0))))))
    (sRaise1 3 "part" (mC (.str "index")))
    sSkip)
    (sSeq (sSet 7 (mCall p_place_for gp_place_for (mCons (mIx (mFld 9 "spaces" (mVar 0)) (mVar 1)) (mCons (mVar 2) (mCons (mVar 7) mNil)))))
    (sSeq (sSet 8 (mAnd (mVar 4) (mOp oIsN (mVar 5) (mC .non))))
    (sSeq (sIf (mTru (mVar 8))
    (sSet 5 (mTup (mCons (mC (.str "object")) (mCons (mOp oAdd (mFld 9 "last_object" (mVar 0)) (mC (.int 1))) mNil))))
    sSkip)
    (sSeq (sSet 9 mDict0)
    (sSeq (sFor (mwR1 (mCons (mVar 2) mNil)) (gN 10)
    (sSetIx (mVar 9) (mOp oAdd (mVar 7) (mVar 10)) (mMake 6 p_Mapped___init__ gp_Mapped___init___kstamp (mCons (mVar 3) (mCons (mVar 4) (mCons (mVar 5) (mCons (mIf (mTru (mOp oIsN (mVar 5) (mC .non))) (mC .non) (mOp oAdd (mVar 6) (mVar 10))) mNil)))) (mCons (mOp oAdd (mFld 9 "step" (mVar 0)) (mC (.int 1))) mNil))))
    (sSeq (sExpr (mCall p_check_charge gp_check_charge_d2 (mCons (mVar 0) (mCons (mDstar1 (mFld 9 "spaces" (mVar 0)) (mVar 1) (mDstar2 (mIx (mFld 9 "spaces" (mVar 0)) (mVar 1)) (mVar 9))) mNil))))
    (sSeq (sIf (mTru (mVar 8))
    (sSeq (sFldAdd 9 "last_object" (mVar 0) (mC (.int 1)))
    (sSetIx (mFld 9 "objects" (mVar 0)) (mFld 9 "last_object" (mVar 0)) mDict0))
    sSkip)
    (sSeq (sLock (mVar 9) (sFor (mwE (mVar 9)) (gN 11)
    (sIf (mTru (mOp (oIn false) (mVar 11) (mIx (mFld 9 "spaces" (mVar 0)) (mVar 1))))
    (sExpr (mCall p_remove gp_remove (mCons (mVar 0) (mCons (mTup (mCons (mVar 1) (mCons (mVar 11) mNil))) mNil))))
    sSkip)))
    (sSeq (sExpr (mBM tpD gUpdate (mIx (mFld 9 "spaces" (mVar 0)) (mVar 1)) (mCons (mVar 9) mNil)))
    (sSeq (sExpr (mMeth 9 p_System_done gp_System_done (mVar 0) mNil))
    (sRet (mVar 7))))))))))))))))))
def p_map_pages : List PV → Sto → Res PV := runB 12 b_map_pages
def gp_map_pages_k0 : List PV → List PV → List PV := fun xs _ => xs ++ [(.str "rw"), (.bl false), .non, (.int 0), .non]
def gp_map_pages_kat : List PV → List PV → List PV := fun xs ys => xs ++ [(.str "rw"), (.bl false), .non, (.int 0)] ++ ys
abbrev s_Mapped_attributes : Stmt := (inClass (top 16) 1)
abbrev N_Mapped_attributes : List Str := ["self"]
def b_Mapped_attributes : MS :=
    (sRet (mTup (mCons (mFld 6 "rights" (mVar 0)) (mCons (mFld 6 "shared" (mVar 0)) (mCons (mFld 6 "source" (mVar 0)) (mCons (mFld 6 "flags" (mVar 0)) mNil))))))
def p_Mapped_attributes : List PV → Sto → Res PV := runB 1 b_Mapped_attributes
def gp_Mapped_attributes : List PV → List PV → List PV := fun xs _ => xs
abbrev s_follows : Stmt := (top 42)
abbrev N_follows : List Str := ["one", "other"]
def b_follows : MS :=
    (sSeq (sIf (mTru (mOp oNe (mMeth 6 p_Mapped_attributes gp_Mapped_attributes (mVar 0) mNil) (mMeth 6 p_Mapped_attributes gp_Mapped_attributes (mVar 1) mNil)))
    (sRet (mC (.bl false)))
    sSkip)
    (sRet (mOr (mOp oIsN (mEither (mFld 6 "index" (mVar 0)) (mFld 8 "index" (mVar 0))) (mC .non)) (mOp oEq (mEither (mFld 6 "index" (mVar 1)) (mFld 8 "index" (mVar 1))) (mOp oAdd (mEither (mFld 6 "index" (mVar 0)) (mFld 8 "index" (mVar 0))) (mC (.int 1)))))))
def p_follows : List PV → Sto → Res PV := runB 2 b_follows
def gp_follows : List PV → List PV → List PV := fun xs _ => xs
abbrev s_regions : Stmt := (top 43)
abbrev N_regions : List Str := ["system", "process", "found", "last", "page", "mapped", "region"]
def b_regions : MS :=
    (sSeq (sExpr (mCall p_check_process gp_check_process (mCons (mVar 0) (mCons (mVar 1) mNil))))
    (sSeq (sSet 2 (mLst mNil))
    (sSeq (sSet 3 (mC .non))
    (sSeq (sFor (mwE (mCall p_sorted_pages gp_sorted_pages (mCons (mIx (mFld 9 "spaces" (mVar 0)) (mVar 1)) mNil))) (gT 2 (gsCons (gN 4) (gsCons (gN 5) gsNil)))
    (sSeq (sIf (mAndT (mTru (mOp oNe (mVar 2) (mLst mNil))) (mAndT (mTru (mOp oEq (mOp oAdd (mIx (mIx (mVar 2) (mNeg (mC (.int 1)))) (mC (.int 0))) (mIx (mIx (mVar 2) (mNeg (mC (.int 1)))) (mC (.int 1)))) (mVar 4))) (mTru (mCall p_follows gp_follows (mCons (mVar 3) (mCons (mVar 5) mNil))))))
    sStuck
    (sExpr (mBM tpL gAppend (mVar 2) (mCons (mLst (mCons (mVar 4) (mCons (mC (.int 1)) (mCons (mFld 6 "rights" (mVar 5)) (mCons (mFld 6 "shared" (mVar 5)) (mCons (mFld 6 "source" (mVar 5)) (mCons (mEither (mFld 6 "index" (mVar 5)) (mFld 8 "index" (mVar 5))) (mCons (mFld 6 "flags" (mVar 5)) mNil)))))))) mNil))))
    (sSet 3 (mVar 5))))
    (sRet (mLock (idE (mVar 2)) (mLc (mwE (mVar 2)) (gN 6) mtYes mStuck [6])))))))
def p_regions : List PV → Sto → Res PV := runB 7 b_regions
def gp_regions : List PV → List PV → List PV := fun xs _ => xs
abbrev s_widest : Stmt := (top 38)
abbrev N_widest : List Str := ["system", "process", "best", "free", "page"]
def b_widest : MS :=
    (sSeq (sExpr (mCall p_check_process gp_check_process (mCons (mVar 0) (mCons (mVar 1) mNil))))
    (sSeq (sSet2 2 3 (mC (.int 0)))
    (sSeq (sFor (mwR1 (mCons (mC (.int 512)) mNil)) (gN 4)
    (sSeq (sSet 3 (mIf (mTru (mOp (oIn false) (mVar 4) (mIx (mFld 9 "spaces" (mVar 0)) (mVar 1)))) (mC (.int 0)) (mOp oAdd (mVar 3) (mC (.int 1)))))
    (sSet 2 (mB (gOr gMax2 (gL1 maxL)) (mCons (mVar 2) (mCons (mVar 3) mNil))))))
    (sRet (mVar 2)))))
def p_widest : List PV → Sto → Res PV := runB 5 b_widest
def gp_widest : List PV → List PV → List PV := fun xs _ => xs
abbrev s__law_refused : Stmt := (top 60)
abbrev N__law_refused : List Str := ["well", "system", "process", "odd"]
def b__law_refused : MS :=
    (sSeq (sSet 3 (mCall p__law_one gp__law_one (mCons (mVar 0) (mCons (mLst (mCons (mC (.int 0)) (mCons (mC (.int 2)) (mCons (mNeg (mC (.int 1))) (mCons (mC .non) (mCons (mC (.str "1")) (mCons (mOp oEq (mC (.int 1)) (mC (.int 1))) (mCons (mLst mNil) (mCons mDict0 (mCons (mTup (mCons (mC (.int 1)) mNil)) (mCons (mOp oPow (mC (.int 10)) (mC (.int 30))) mNil))))))))))) mNil))))
    (sSeq (sIf (mTru (mOp oNe (mLam (subOf subT) hs__law_said N__law_said.length (mCall p_gap gp_gap (mCons (mVar 1) (mCons (mVar 3) (mCons (mCall p__law_one gp__law_one (mCons (mVar 0) (mCons (mLst (mCons (mC (.int 1)) (mCons (mC (.int 0)) mNil))) mNil))) mNil))))) (mTup (mCons (mC (.str "process")) (mCons (mVar 3) mNil)))))
    (sRet (mC (.bl false)))
    sSkip)
    (sSeq (sIf (mTru (mOp oNe (mLam (subOf subT) hs__law_said N__law_said.length (mCall p_widest gp_widest (mCons (mVar 1) (mCons (mVar 3) mNil)))) (mTup (mCons (mC (.str "process")) (mCons (mVar 3) mNil)))))
    (sRet (mC (.bl false)))
    sSkip)
    (sSeq (sIf (mTru (mOp oNe (mLam (subOf subT) hs__law_said N__law_said.length (mCall p_regions gp_regions (mCons (mVar 1) (mCons (mVar 3) mNil)))) (mTup (mCons (mC (.str "process")) (mCons (mVar 3) mNil)))))
    (sRet (mC (.bl false)))
    sSkip)
    (sSeq (sSet 3 (mCall p__law_one gp__law_one (mCons (mVar 0) (mCons (mLst (mCons (mC (.int 0)) (mCons (mNeg (mC (.int 1))) (mCons (mC (.int 513)) (mCons (mC .non) (mCons (mC (.str "1")) (mCons (mOp oEq (mC (.int 1)) (mC (.int 1))) (mCons (mLst mNil) (mCons mDict0 (mCons (mTup (mCons (mC (.int 1)) mNil)) (mCons (mOp oPow (mC (.int 10)) (mC (.int 30))) mNil))))))))))) mNil))))
    (sSeq (sIf (mTru (mOp oNe (mLam (subOf subT) hs__law_said N__law_said.length (mCall p_gap gp_gap (mCons (mVar 1) (mCons (mVar 2) (mCons (mVar 3) mNil))))) (mTup (mCons (mC (.str "part")) (mCons (mC (.str "count")) mNil)))))
    (sRet (mC (.bl false)))
    sSkip)
    (sSeq (sIf (mTru (mOp oNe (mLam (subOf subT) hs__law_said N__law_said.length (mCall p_map_pages gp_map_pages_k0 (mCons (mVar 1) (mCons (mVar 2) (mCons (mVar 3) mNil))))) (mTup (mCons (mC (.str "part")) (mCons (mC (.str "count")) mNil)))))
    (sRet (mC (.bl false)))
    sSkip)
    (sRet (mC (.bl true))))))))))
def p__law_refused : List PV → Sto → Res PV := runB 4 b__law_refused
def gp__law_refused : List PV → List PV → List PV := fun xs _ => xs
abbrev s__law_well : Stmt := (top 54)
abbrev N__law_well : List Str := ["cell"]
def b__law_well : MS :=
    (sRet (mLst (mCons (mOp oMul (mVar 0) (mB gInt (mCons (mOp oGe (mVar 0) (mOp oPow (mC (.int 10)) (mC (.int 18)))) mNil))) (mCons (mOp oMod (mB gInt (mCons (mVar 0) mNil)) (mC (.int 2147483647))) (mCons (mC (.int 0)) mNil)))))
def p__law_well : List PV → Sto → Res PV := runB 1 b__law_well
def gp__law_well : List PV → List PV → List PV := fun xs _ => xs
abbrev s__law_widest : Stmt := (top 59)
abbrev N__law_widest : List Str := ["space", "best", "free", "page"]
def b__law_widest : MS :=
    (sSeq (sSet 1 (mC (.int 0)))
    (sSeq (sSet 2 (mC (.int 0)))
    (sSeq (sFor (mwR1 (mCons (mC (.int 512)) mNil)) (gN 3)
    (sSeq (sSet 2 (mOp oAdd (mVar 2) (mC (.int 1))))
    (sSeq (sIf (mTru (mOp (oIn false) (mVar 3) (mVar 0)))
    (sSet 2 (mC (.int 0)))
    sSkip)
    (sSet 1 (mB (gOr gMax2 (gL1 maxL)) (mCons (mVar 1) (mCons (mVar 2) mNil)))))))
    (sRet (mVar 1)))))
def p__law_widest : List PV → Sto → Res PV := runB 4 b__law_widest
def gp__law_widest : List PV → List PV → List PV := fun xs _ => xs
abbrev s_new_process : Stmt := (top 50)
abbrev N_new_process : List Str := ["system"]
def b_new_process : MS :=
    (sSeq (sFldAdd 9 "last_process" (mVar 0) (mC (.int 1)))
    (sSeq (sSetIx (mFld 9 "spaces" (mVar 0)) (mFld 9 "last_process" (mVar 0)) mDict0)
    (sRet (mFld 9 "last_process" (mVar 0)))))
def p_new_process : List PV → Sto → Res PV := runB 1 b_new_process
def gp_new_process : List PV → List PV → List PV := fun xs _ => xs
abbrev s_spawn : Stmt := (top 51)
abbrev N_spawn : List Str := ["system", "found"]
def b_spawn : MS :=
    (sSeq (sSet 1 (mCall p_new_process gp_new_process (mCons (mVar 0) mNil)))
    (sSeq (sExpr (mMeth 9 p_System_done gp_System_done (mVar 0) mNil))
    (sRet (mVar 1))))
def p_spawn : List PV → Sto → Res PV := runB 2 b_spawn
def gp_spawn : List PV → List PV → List PV := fun xs _ => xs
abbrev s_check_range : Stmt := (top 23)
abbrev N_check_range : List Str := ["first", "count"]
def b_check_range : MS :=
    (sSeq (sIf (mNotT (mTru (mCall p_is_between gp_is_between (mCons (mVar 0) (mCons (mC (.int 0)) (mCons (mOp oSub (mC (.int 512)) (mC (.int 1))) mNil))))))
    (sRaise1 3 "part" (mC (.str "first")))
    sSkip)
    (sIf (mNotT (mTru (mCall p_is_between gp_is_between (mCons (mVar 1) (mCons (mC (.int 1)) (mCons (mOp oSub (mC (.int 512)) (mVar 0)) mNil))))))
    (sRaise1 3 "part" (mC (.str "count")))
    sSkip))
def p_check_range : List PV → Sto → Res PV := runB 2 b_check_range
def gp_check_range : List PV → List PV → List PV := fun xs _ => xs
abbrev s_unmap : Stmt := (top 41)
abbrev N_unmap : List Str := ["system", "process", "first", "count", "page"]
def b_unmap : MS :=
    (sSeq (sExpr (mCall p_check_process gp_check_process (mCons (mVar 0) (mCons (mVar 1) mNil))))
    (sSeq (sExpr (mCall p_check_range gp_check_range (mCons (mVar 2) (mCons (mVar 3) mNil))))
    (sSeq (sFor (mwR2 (mCons (mVar 2) (mCons (mOp oAdd (mVar 2) (mVar 3)) mNil))) (gN 4)
    (sIf (mTru (mOp (oIn false) (mVar 4) (mIx (mFld 9 "spaces" (mVar 0)) (mVar 1))))
    (sExpr (mCall p_remove gp_remove (mCons (mVar 0) (mCons (mTup (mCons (mVar 1) (mCons (mVar 4) mNil))) mNil))))
    sSkip))
    (sExpr (mMeth 9 p_System_done gp_System_done (mVar 0) mNil)))))
def p_unmap : List PV → Sto → Res PV := runB 5 b_unmap
def gp_unmap : List PV → List PV → List PV := fun xs _ => xs
abbrev s_law : Stmt := (top 61)
abbrev N_law : List Str := ["script", "cell", "well", "system", "process", "space", "k", "begin", "many", "page", "due"]
def b_law : MS :=
    (sSeq (sFor (mwE (mOp oAdd (mSl (mVar 0) moNone (moSome (mC (.int 8)))) (mLst (mCons (mC (.int 0)) (mCons (mC (.int 1)) mNil))))) (gN 1)
    (sSeq (sSet 2 (mCall p__law_well gp__law_well (mCons (mVar 1) mNil)))
    (sSeq (sSet 3 (mMake 9 p_System___init__ gp_System___init___k0 mNil mNil))
    (sSeq (sSet 4 (mCall p_spawn gp_spawn (mCons (mVar 3) mNil)))
    (sSeq (sSet 5 mDict0)
    (sSeq (sFor (mwR1 (mCons (mCall p__law_draw gp__law_draw (mCons (mVar 2) (mCons (mC (.int 13)) mNil))) mNil)) (gN 6)
    (sSeq (sSet 7 (mCall p__law_one gp__law_one (mCons (mVar 2) (mCons (mLst (mCons (mC (.int 0)) (mCons (mC (.int 500)) (mCons (mCall p__law_draw gp__law_draw (mCons (mVar 2) (mCons (mC (.int 512)) mNil))) (mCons (mCall p__law_draw gp__law_draw (mCons (mVar 2) (mCons (mC (.int 40)) mNil))) mNil))))) mNil))))
    (sSeq (sSet 8 (mB (gOr gMin2 (gL1 minL)) (mCons (mOp oSub (mC (.int 512)) (mVar 7)) (mCons (mOp oAdd (mC (.int 1)) (mCall p__law_draw gp__law_draw (mCons (mVar 2) (mCons (mCall p__law_one gp__law_one (mCons (mVar 2) (mCons (mLst (mCons (mC (.int 4)) (mCons (mC (.int 60)) (mCons (mC (.int 512)) mNil)))) mNil))) mNil)))) mNil))))
    (sIf (mTru (mOp oEq (mCall p__law_draw gp__law_draw (mCons (mVar 2) (mCons (mC (.int 4)) mNil))) (mC (.int 0))))
    (sSeq (sExpr (mCall p_unmap gp_unmap (mCons (mVar 3) (mCons (mVar 4) (mCons (mVar 7) (mCons (mVar 8) mNil))))))
    (sFor (mwR2 (mCons (mVar 7) (mCons (mOp oAdd (mVar 7) (mVar 8)) mNil))) (gN 9)
    (sExpr (mBM tpD gDPop2 (mVar 5) (mCons (mVar 9) (mCons (mC .non) mNil))))))
    (sSeq (sExpr (mCallK p_map_pages gp_map_pages_kat (mCons (mVar 3) (mCons (mVar 4) (mCons (mVar 8) mNil))) (mCons (mVar 7) mNil)))
    (sFor (mwR2 (mCons (mVar 7) (mCons (mOp oAdd (mVar 7) (mVar 8)) mNil))) (gN 9)
    (sSetIx (mVar 5) (mVar 9) (mC (.bl true)))))))))
    (sSeq (sIf (mTru (mOp oNe (mCall p_widest gp_widest (mCons (mVar 3) (mCons (mVar 4) mNil))) (mCall p__law_widest gp__law_widest (mCons (mVar 5) mNil))))
    (sRet (mC (.bl false)))
    sSkip)
    (sSeq (sFor (mwE (mLst (mCons (mC (.int 1)) (mCons (mC (.int 2)) (mCons (mC (.int 512)) (mCons (mCall p__law_widest gp__law_widest (mCons (mVar 5) mNil)) (mCons (mOp oAdd (mCall p__law_widest gp__law_widest (mCons (mVar 5) mNil)) (mC (.int 1))) (mCons (mOp oAdd (mC (.int 1)) (mCall p__law_draw gp__law_draw (mCons (mVar 2) (mCons (mC (.int 512)) mNil)))) mNil)))))))) (gN 8)
    (sIf (mAndT (mTstB (mChain oLe oLe (mC (.int 1)) (mVar 8) (mC (.int 512)))) (mTru (mOp oNe (mCall p_gap gp_gap (mCons (mVar 3) (mCons (mVar 4) (mCons (mVar 8) mNil)))) (mCall p__law_fits gp__law_fits (mCons (mVar 5) (mCons (mVar 8) mNil))))))
    (sRet (mC (.bl false)))
    sSkip))
    (sSeq (sIf (mNotT (mTru (mCall p__law_refused gp__law_refused (mCons (mVar 2) (mCons (mVar 3) (mCons (mVar 4) mNil))))))
    (sRet (mC (.bl false)))
    sSkip)
    (sSeq (sSet 8 (mOp oAdd (mC (.int 1)) (mCall p__law_draw gp__law_draw (mCons (mVar 2) (mCons (mCall p__law_one gp__law_one (mCons (mVar 2) (mCons (mLst (mCons (mC (.int 5)) (mCons (mC (.int 512)) mNil))) mNil))) mNil)))))
    (sSeq (sSet 10 (mCall p__law_fits gp__law_fits (mCons (mVar 5) (mCons (mVar 8) mNil))))
    (sIf (mTru (mOp oNe (mLam (subOf subT) hs__law_said N__law_said.length (mCall p_map_pages gp_map_pages_k0 (mCons (mVar 3) (mCons (mVar 4) (mCons (mVar 8) mNil))))) (mIx (mLst (mCons (mVar 10) (mCons (mTup (mCons (mC (.str "part")) (mCons (mC (.str "at")) mNil))) mNil))) (mB gInt (mCons (mOp oIsN (mVar 10) (mC .non)) mNil)))))
    (sRet (mC (.bl false)))
    sSkip))))))))))))
    (sRet (mC (.bl true))))
def p_law : List PV → Sto → Res PV := runB 11 b_law
end

structure Txt (K : PySem.W.Frag) (mg : Str → Option Value) (cl : CT) : Prop where
  cls6 : Cls K (cl.ad 6)
  at6 : ∀ m ∈ fl_6, NoAttr K (cl.ad 6) m
  fl6 : ∀ m ∈ fl_6, m ∈ cl.fld 6
  cls7 : Cls K (cl.ad 7)
  at7 : ∀ m ∈ fl_7, NoAttr K (cl.ad 7) m
  fl7 : ∀ m ∈ fl_7, m ∈ cl.fld 7
  cls8 : Cls K (cl.ad 8)
  at8 : ∀ m ∈ fl_8, NoAttr K (cl.ad 8) m
  fl8 : ∀ m ∈ fl_8, m ∈ cl.fld 8
  cls9 : Cls K (cl.ad 9)
  at9 : ∀ m ∈ fl_9, NoAttr K (cl.ad 9) m
  fl9 : ∀ m ∈ fl_9, m ∈ cl.fld 9
  nm0 : mg "PageError" = some (.ref (cl.ad 0))
  nm1 : mg "NoSystem" = some (.ref (cl.ad 1))
  nm2 : mg "NoProcess" = some (.ref (cl.ad 2))
  nm3 : mg "NoPages" = some (.ref (cl.ad 3))
  nm4 : mg "NoFile" = some (.ref (cl.ad 4))
  nm5 : mg "NoCharge" = some (.ref (cl.ad 5))
  xf0 : XfC K (cl.ad 0)
  xf1 : XfC K (cl.ad 1)
  xn1 : PySem.W.findIn K (.ref (cl.ad 1)) "part" = some none
  xf2 : XfC K (cl.ad 2)
  xn2 : PySem.W.findIn K (.ref (cl.ad 2)) "process" = some none
  xf3 : XfC K (cl.ad 3)
  xn3 : PySem.W.findIn K (.ref (cl.ad 3)) "part" = some none
  xf4 : XfC K (cl.ad 4)
  xn4 : PySem.W.findIn K (.ref (cl.ad 4)) "name" = some none
  xf5 : XfC K (cl.ad 5)
  subs : ∀ p ∈ subT, PySem.W.exmOne K (.ref (cl.ad p.1.1)) (.ref (cl.ad p.1.2)) = some p.2
  no_ : ∀ x ∈ (["range", "enumerate", "zip", "len", "int", "abs", "isinstance", "sum", "any", "all", "sorted", "list", "max", "min", "bool", "str", "tuple", "dict"] : List Str), mg x = none
  gc_LETTERS : ∃ t, mg "LETTERS" = some (.str "abcdefghijklmnopqrstuvwxyz" t)
  gc_PAGES : ∃ t, mg "PAGES" = some (.int 512 t)
  gc_RIGHTS : ∃ a vs, mg "RIGHTS" = some (.ref a) ∧ KTup K a vs ∧ ∀ ρ H, RelPs K ρ H [(.str "none"), (.str "r"), (.str "rw")] vs
section
variable {P : Program} {w : World} {K : PySem.W.Frag} {mg : Str → Option Value} {base : Heap} {cl : CT}
theorem sc__law_said : FnScope N__law_said ["ask"] (defScope s__law_said) := ⟨rfl, rfl, rfl, by decide +kernel, rfl, by decide +kernel, by decide +kernel⟩
theorem hh__law_said {X : Cx} {x : Str} {g : Addr} {cdv : Value} {s : Shared} {H : Hp} (T : Txt X.K X.mg cl) : HdsX (cxOf C8.CX0 X.prog X.w X.K X.mg X.base N__law_said x (defScope s__law_said) g cdv X.A X.stack s H C8.E0).nox (match defBody s__law_said with | [.Try _ h _ _ _] => h | _ => []) (hdsV X.K cl hs__law_said) :=
  (.as (i := 1) sc__law_said.nd rfl rfl ⟨rfl, by decide, .inl T.nm3⟩ (fun a oe cls d pn hz hf => tx_pair T.xf3 T.xn3 hz hf rfl (by first | exact Or.inl rfl | exact Or.inr (Or.inl rfl) | exact Or.inr (Or.inr rfl) | exact Or.inr rfl | decide))
    (.as (i := 1) sc__law_said.nd rfl rfl ⟨rfl, by decide, .inl T.nm2⟩ (fun a oe cls d pn hz hf => tx_pair T.xf2 T.xn2 hz hf rfl (by first | exact Or.inl rfl | exact Or.inr (Or.inl rfl) | exact Or.inr (Or.inr rfl) | exact Or.inr rfl | decide))
    (.one ⟨rfl, by decide, .inl T.nm0⟩ (fun a oe cls d pn _ _ => tx_plain (ms_one (ms_ret (me_tup (ma_cons me_str (ma_cons me_non ma_nil))))))
    .nil)))
theorem sc_Memory___init__ : FnScope N_Memory___init__ ["self", "system"] (defScope s_Memory___init__) := ⟨rfl, rfl, rfl, by decide +kernel, rfl, by decide +kernel, by decide +kernel⟩
theorem w_Memory___init__ {f : Addr} (T : Txt K mg cl)   : BodyOk P w K mg base cl 0 f N_Memory___init__ "Memory.__init__" (defScope s_Memory___init__) (defBody s_Memory___init__) b_Memory___init__ := by
  intro cdv A outer s H E hr
  delta b_Memory___init__
  exact (ms_cons (ms_fld (c := 7) T.cls7 (T.at7 "system" (by decide +kernel)) (T.fl7 "system" (by decide +kernel)) (me_var 0) (me_var 1))
    (ms_cons (ms_fld (c := 7) T.cls7 (T.at7 "inside" (by decide +kernel)) (T.fl7 "inside" (by decide +kernel)) (me_var 0) me_dict0)
    (ms_cons (ms_fld (c := 7) T.cls7 (T.at7 "outside" (by decide +kernel)) (T.fl7 "outside" (by decide +kernel)) (me_var 0) me_dict0)
    (ms_cons (ms_fld (c := 7) T.cls7 (T.at7 "dirty" (by decide +kernel)) (T.fl7 "dirty" (by decide +kernel)) (me_var 0) me_dict0)
    (ms_cons (ms_fld (c := 7) T.cls7 (T.at7 "faults" (by decide +kernel)) (T.fl7 "faults" (by decide +kernel)) (me_var 0) me_int)
    (ms_cons (ms_fld (c := 7) T.cls7 (T.at7 "swap_outs" (by decide +kernel)) (T.fl7 "swap_outs" (by decide +kernel)) (me_var 0) me_int)
    (ms_one (ms_fld (c := 7) T.cls7 (T.at7 "write_backs" (by decide +kernel)) (T.fl7 "write_backs" (by decide +kernel)) (me_var 0) me_int))))))))
theorem sc_Stack___init__ : FnScope N_Stack___init__ ["self"] (defScope s_Stack___init__) := ⟨rfl, rfl, rfl, by decide +kernel, rfl, by decide +kernel, by decide +kernel⟩
theorem w_Stack___init__ {f : Addr} (T : Txt K mg cl)   : BodyOk P w K mg base cl 0 f N_Stack___init__ "Stack.__init__" (defScope s_Stack___init__) (defBody s_Stack___init__) b_Stack___init__ := by
  intro cdv A outer s H E hr
  delta b_Stack___init__
  exact (ms_cons (ms_fld (c := 8) T.cls8 (T.at8 "row" (by decide +kernel)) (T.fl8 "row" (by decide +kernel)) (me_var 0) (me_lst ma_nil))
    (ms_cons (ms_fld (c := 8) T.cls8 (T.at8 "index" (by decide +kernel)) (T.fl8 "index" (by decide +kernel)) (me_var 0) me_dict0)
    (ms_cons (ms_fld (c := 8) T.cls8 (T.at8 "locked" (by decide +kernel)) (T.fl8 "locked" (by decide +kernel)) (me_var 0) me_int)
    (ms_cons (ms_fld (c := 8) T.cls8 (T.at8 "has_crashed" (by decide +kernel)) (T.fl8 "has_crashed" (by decide +kernel)) (me_var 0) me_bl)
    (ms_cons (ms_fld (c := 8) T.cls8 (T.at8 "has_merged" (by decide +kernel)) (T.fl8 "has_merged" (by decide +kernel)) (me_var 0) me_bl)
    (ms_cons (ms_fld (c := 8) T.cls8 (T.at8 "distances" (by decide +kernel)) (T.fl8 "distances" (by decide +kernel)) (me_var 0) (me_lst ma_nil))
    (ms_cons (ms_fld (c := 8) T.cls8 (T.at8 "touched" (by decide +kernel)) (T.fl8 "touched" (by decide +kernel)) (me_var 0) (me_lst ma_nil))
    (ms_cons (ms_fld (c := 8) T.cls8 (T.at8 "touches" (by decide +kernel)) (T.fl8 "touches" (by decide +kernel)) (me_var 0) (me_lst ma_nil))
    (ms_cons (ms_fld (c := 8) T.cls8 (T.at8 "since" (by decide +kernel)) (T.fl8 "since" (by decide +kernel)) (me_var 0) me_dict0)
    (ms_cons (ms_fld (c := 8) T.cls8 (T.at8 "outs" (by decide +kernel)) (T.fl8 "outs" (by decide +kernel)) (me_var 0) me_dict0)
    (ms_cons (ms_fld (c := 8) T.cls8 (T.at8 "backs" (by decide +kernel)) (T.fl8 "backs" (by decide +kernel)) (me_var 0) me_dict0)
    (ms_cons (ms_fld (c := 8) T.cls8 (T.at8 "backs_from" (by decide +kernel)) (T.fl8 "backs_from" (by decide +kernel)) (me_var 0) me_dict0)
    (ms_cons (ms_fld (c := 8) T.cls8 (T.at8 "slots" (by decide +kernel)) (T.fl8 "slots" (by decide +kernel)) (me_var 0) (me_lst ma_nil))
    (ms_cons (ms_fld (c := 8) T.cls8 (T.at8 "dirty" (by decide +kernel)) (T.fl8 "dirty" (by decide +kernel)) (me_var 0) me_dict0)
    (ms_one (ms_fld (c := 8) T.cls8 (T.at8 "disks" (by decide +kernel)) (T.fl8 "disks" (by decide +kernel)) (me_var 0) me_dict0))))))))))))))))
theorem sc_is_integer : FnScope N_is_integer ["thing"] (defScope s_is_integer) := ⟨rfl, rfl, rfl, by decide +kernel, rfl, by decide +kernel, by decide +kernel⟩
theorem w_is_integer {f : Addr} (T : Txt K mg cl)   : BodyOk P w K mg base cl 0 f N_is_integer "is_integer" (defScope s_is_integer) (defBody s_is_integer) b_is_integer := by
  intro cdv A outer s H E hr
  delta b_is_integer
  exact (ms_one (ms_ret (me_and (me_callB cr_isi (by exact rfl) (T.no_ "isinstance" (by decide +kernel)) (by decide +kernel) (ma_cons (me_var 0) (ma_cons (me_tyn (n := "int") (by exact rfl) (T.no_ "int" (by decide +kernel)) (by decide +kernel)) ma_nil))) (me_one (me_not (me_callB cr_isi (by exact rfl) (T.no_ "isinstance" (by decide +kernel)) (by decide +kernel) (ma_cons (me_var 0) (ma_cons (me_tyn (n := "bool") (by exact rfl) (T.no_ "bool" (by decide +kernel)) (by decide +kernel)) ma_nil))))))))
theorem sc_is_between : FnScope N_is_between ["thing", "low", "high"] (defScope s_is_between) := ⟨rfl, rfl, rfl, by decide +kernel, rfl, by decide +kernel, by decide +kernel⟩
theorem w_is_between {f : Addr} (T : Txt K mg cl) (c_is_integer : CalM P w K mg base cl 1 "is_integer" 1 [] p_is_integer gp_is_integer)  : BodyOk P w K mg base cl 1 f N_is_between "is_between" (defScope s_is_between) (defBody s_is_between) b_is_between := by
  intro cdv A outer s H E hr
  delta b_is_between
  exact (ms_one (ms_ret (me_and (mc_call c_is_integer (hr.mono (by decide)) (by exact rfl) tkD (ma_cons (me_var 0) ma_nil) (len_cons len_nil)) (me_one (me_lele (me_var 1) (me_var 0) (me_var 2))))))
theorem sc_System___init__ : FnScope N_System___init__ ["self", "frames", "slots", "strict"] (defScope s_System___init__) := ⟨rfl, rfl, rfl, by decide +kernel, rfl, by decide +kernel, by decide +kernel⟩
theorem w_System___init__ {f : Addr} (T : Txt K mg cl) (c_Memory___init__ : ClsM P w K mg base cl 1 7 "Memory" 1 [] p_Memory___init__ gp_Memory___init__) (c_Stack___init__ : ClsM P w K mg base cl 1 8 "Stack" 0 [] p_Stack___init__ gp_Stack___init__) (c_is_between : CalM P w K mg base cl 2 "is_between" 3 [] p_is_between gp_is_between) (x_NoSystem : ExM P w K mg base cl 1 "part") : BodyOk P w K mg base cl 2 f N_System___init__ "System.__init__" (defScope s_System___init__) (defBody s_System___init__) b_System___init__ := by
  intro cdv A outer s H E hr
  delta b_System___init__
  exact (ms_cons (ms_if ((mw_and (mt_cmp ow_notN calm_notN (me_var 1) me_non) (mw_and1 (mt_not (mt_of (mc_call c_is_between (hr.mono (by decide)) (by exact rfl) tkD (ma_cons (me_var 1) (ma_cons me_int (ma_cons me_int ma_nil))) (len_cons (len_cons (len_cons len_nil))))))))).pt
    (ms_one (ms_raise1 (by exact rfl) tkD (x_NoSystem.at_ (hr.mono (by decide))) (by exact rfl) T.nm1 me_str))
    ms_nil)
    (ms_cons (ms_if ((mw_and (mt_cmp ow_notN calm_notN (me_var 2) me_non) (mw_and1 (mt_not (mt_of (mc_call c_is_between (hr.mono (by decide)) (by exact rfl) tkD (ma_cons (me_var 2) (ma_cons me_int (ma_cons me_int ma_nil))) (len_cons (len_cons (len_cons len_nil))))))))).pt
    (ms_one (ms_raise1 (by exact rfl) tkD (x_NoSystem.at_ (hr.mono (by decide))) (by exact rfl) T.nm1 me_str))
    ms_nil)
    (ms_cons (ms_if ((mw_or (mt_not (mt_of (me_callB cr_isi (by exact rfl) (T.no_ "isinstance" (by decide +kernel)) (by decide +kernel) (ma_cons (me_var 3) (ma_cons (me_tyn (n := "bool") (by exact rfl) (T.no_ "bool" (by decide +kernel)) (by decide +kernel)) ma_nil))))) (mw_or1 ((mw_and (mt_of (me_var 3)) (mw_and1 ((mw_or (mt_cmp ow_isN calm_isN (me_var 1) me_non) (mw_or1 (mt_cmp ow_isN calm_isN (me_var 2) me_non)))).pt))).pt))).pt
    (ms_one (ms_raise1 (by exact rfl) tkD (x_NoSystem.at_ (hr.mono (by decide))) (by exact rfl) T.nm1 me_str))
    ms_nil)
    (ms_cons (ms_fld (c := 9) T.cls9 (T.at9 "frames" (by decide +kernel)) (T.fl9 "frames" (by decide +kernel)) (me_var 0) (me_var 1))
    (ms_cons (ms_fld (c := 9) T.cls9 (T.at9 "slots" (by decide +kernel)) (T.fl9 "slots" (by decide +kernel)) (me_var 0) (me_var 2))
    (ms_cons (ms_fld (c := 9) T.cls9 (T.at9 "strict" (by decide +kernel)) (T.fl9 "strict" (by decide +kernel)) (me_var 0) (me_var 3))
    (ms_cons (ms_fld (c := 9) T.cls9 (T.at9 "spaces" (by decide +kernel)) (T.fl9 "spaces" (by decide +kernel)) (me_var 0) me_dict0)
    (ms_cons (ms_fld (c := 9) T.cls9 (T.at9 "objects" (by decide +kernel)) (T.fl9 "objects" (by decide +kernel)) (me_var 0) me_dict0)
    (ms_cons (ms_fld (c := 9) T.cls9 (T.at9 "catalogue" (by decide +kernel)) (T.fl9 "catalogue" (by decide +kernel)) (me_var 0) me_dict0)
    (ms_cons (ms_fld (c := 9) T.cls9 (T.at9 "disks" (by decide +kernel)) (T.fl9 "disks" (by decide +kernel)) (me_var 0) me_dict0)
    (ms_cons (ms_fld (c := 9) T.cls9 (T.at9 "step" (by decide +kernel)) (T.fl9 "step" (by decide +kernel)) (me_var 0) me_int)
    (ms_cons (ms_fld (c := 9) T.cls9 (T.at9 "last_process" (by decide +kernel)) (T.fl9 "last_process" (by decide +kernel)) (me_var 0) me_int)
    (ms_cons (ms_fld (c := 9) T.cls9 (T.at9 "last_object" (by decide +kernel)) (T.fl9 "last_object" (by decide +kernel)) (me_var 0) me_int)
    (ms_cons (ms_fld (c := 9) T.cls9 (T.at9 "last_item" (by decide +kernel)) (T.fl9 "last_item" (by decide +kernel)) (me_var 0) me_int)
    (ms_cons (ms_fld (c := 9) T.cls9 (T.at9 "most_locked" (by decide +kernel)) (T.fl9 "most_locked" (by decide +kernel)) (me_var 0) me_int)
    (ms_cons (ms_fld (c := 9) T.cls9 (T.at9 "stack" (by decide +kernel)) (T.fl9 "stack" (by decide +kernel)) (me_var 0) (mc_make0 c_Stack___init__ (hr.mono (by decide)) (by exact rfl) tkD))
    (ms_one (ms_fld (c := 9) T.cls9 (T.at9 "memory" (by decide +kernel)) (T.fl9 "memory" (by decide +kernel)) (me_var 0) (mc_make c_Memory___init__ (hr.mono (by decide)) (by exact rfl) tkD (ma_cons (me_var 0) ma_nil) (len_cons len_nil))))))))))))))))))))
theorem sc__law_draw : FnScope N__law_draw ["well", "many"] (defScope s__law_draw) := ⟨rfl, rfl, rfl, by decide +kernel, rfl, by decide +kernel, by decide +kernel⟩
theorem w__law_draw {f : Addr} (T : Txt K mg cl)   : BodyOk P w K mg base cl 0 f N__law_draw "_law_draw" (defScope s__law_draw) (defBody s__law_draw) b__law_draw := by
  intro cdv A outer s H E hr
  delta b__law_draw
  exact (ms_cons (ms_if (mt_cmp ow_gt calm_II (me_ix (hu_of hr) (me_var 0) me_int) me_int)
    (ms_cons (ms_set (i := 2) sc__law_draw.nd (by exact rfl) (by first | exact Or.inl (by exact rfl) | exact Or.inr rfl) (me_mod (me_callTy cr_int (by exact rfl) (T.no_ "int" (by decide +kernel)) (by decide +kernel) (ma_cons (me_ix (hu_of hr) (me_var 0) me_int) ma_nil)) (me_var 1)))
    (ms_cons (ms_setIx (hu_of hr) (me_var 0) me_int (me_div (me_ix (hu_of hr) (me_var 0) me_int) (me_var 1)))
    (ms_one (ms_ret (me_var 2)))))
    ms_nil)
    (ms_cons (ms_setIx (hu_of hr) (me_var 0) me_int (me_add (me_ix (hu_of hr) (me_var 0) me_int) me_int))
    (ms_cons (ms_set (i := 3) sc__law_draw.nd (by exact rfl) (by first | exact Or.inl (by exact rfl) | exact Or.inr rfl) (me_ix (hu_of hr) (me_lst (ma_cons me_int (ma_cons me_int (ma_cons me_int (ma_cons me_int (ma_cons me_int (ma_cons me_int (ma_cons me_int ma_nil)))))))) (me_mod (me_callTy cr_int (by exact rfl) (T.no_ "int" (by decide +kernel)) (by decide +kernel) (ma_cons (me_ix (hu_of hr) (me_var 0) me_int) ma_nil)) me_int)))
    (ms_cons (ms_set (i := 4) sc__law_draw.nd (by exact rfl) (by first | exact Or.inl (by exact rfl) | exact Or.inr rfl) (me_mod (me_callTy cr_int (by exact rfl) (T.no_ "int" (by decide +kernel)) (by decide +kernel) (ma_cons (me_pow (me_add (me_add (me_ix (hu_of hr) (me_var 0) me_int) (me_mul me_int (me_ix (hu_of hr) (me_var 0) me_int))) me_int) me_int) ma_nil)) (me_var 3)))
    (ms_cons (ms_set (i := 4) sc__law_draw.nd (by exact rfl) (by first | exact Or.inl (by exact rfl) | exact Or.inr rfl) (me_mod (me_callTy cr_int (by exact rfl) (T.no_ "int" (by decide +kernel)) (by decide +kernel) (ma_cons (me_mul (me_add (me_var 4) (me_ix (hu_of hr) (me_var 0) me_int)) (me_add (me_div (me_var 4) me_int) me_int)) ma_nil)) (me_var 3)))
    (ms_one (ms_ret (me_mod (me_callTy cr_int (by exact rfl) (T.no_ "int" (by decide +kernel)) (by decide +kernel) (ma_cons (me_div (me_var 4) me_int) ma_nil)) (me_var 1)))))))))
theorem sc__law_fits : FnScope N__law_fits ["space", "many"] (defScope s__law_fits) := ⟨rfl, rfl, rfl, by decide +kernel, rfl, by decide +kernel, by decide +kernel⟩
theorem w__law_fits {f : Addr} (T : Txt K mg cl)   : BodyOk P w K mg base cl 0 f N__law_fits "_law_fits" (defScope s__law_fits) (defBody s__law_fits) b__law_fits := by
  intro cdv A outer s H E hr
  delta b__law_fits
  exact (ms_cons (ms_set (i := 2) sc__law_fits.nd (by exact rfl) (by first | exact Or.inl (by exact rfl) | exact Or.inr rfl) me_int)
    (ms_cons (ms_for (vs := [3]) poD (by exact rfl) (mw_range1 (by exact rfl) (T.no_ "range" (by decide +kernel)) (ma_cons me_int ma_nil)) (mg_name (i := 3) sc__law_fits.nd (by exact rfl) (by first | exact Or.inl (by exact rfl) | exact Or.inr rfl) (by decide))
    (ms_cons (ms_set (i := 2) sc__law_fits.nd (by exact rfl) (by first | exact Or.inl (by exact rfl) | exact Or.inr rfl) (me_add (me_var 2) me_int))
    (ms_cons (ms_if (mt_cmp (ow_in (hr).units) calm_in (me_var 3) (me_var 0))
    (ms_one (ms_set (i := 2) sc__law_fits.nd (by exact rfl) (by first | exact Or.inl (by exact rfl) | exact Or.inr rfl) me_int))
    ms_nil)
    (ms_one (ms_if (mt_cmp (ow_eq (hr).units) calm_eq (me_var 2) (me_var 1))
    (ms_one (ms_ret (me_add (me_sub (me_var 3) (me_var 1)) me_int)))
    ms_nil)))))
    (ms_one (ms_ret me_non))))
theorem sc__law_one : FnScope N__law_one ["well", "some"] (defScope s__law_one) := ⟨rfl, rfl, rfl, by decide +kernel, rfl, by decide +kernel, by decide +kernel⟩
theorem w__law_one {f : Addr} (T : Txt K mg cl) (c__law_draw : CalM P w K mg base cl 1 "_law_draw" 2 [] p__law_draw gp__law_draw)  : BodyOk P w K mg base cl 1 f N__law_one "_law_one" (defScope s__law_one) (defBody s__law_one) b__law_one := by
  intro cdv A outer s H E hr
  delta b__law_one
  exact (ms_one (ms_ret (me_ix (hu_of hr) (me_var 1) (mc_call c__law_draw (hr.mono (by decide)) (by exact rfl) tkD (ma_cons (me_var 0) (ma_cons (me_callB cr_len (by exact rfl) (T.no_ "len" (by decide +kernel)) (by decide +kernel) (ma_cons (me_var 1) ma_nil)) ma_nil)) (len_cons (len_cons len_nil))))))
theorem sc_check_process : FnScope N_check_process ["system", "process"] (defScope s_check_process) := ⟨rfl, rfl, rfl, by decide +kernel, rfl, by decide +kernel, by decide +kernel⟩
theorem w_check_process {f : Addr} (T : Txt K mg cl) (c_is_integer : CalM P w K mg base cl 1 "is_integer" 1 [] p_is_integer gp_is_integer) (x_NoProcess : ExM P w K mg base cl 2 "process") : BodyOk P w K mg base cl 2 f N_check_process "check_process" (defScope s_check_process) (defBody s_check_process) b_check_process := by
  intro cdv A outer s H E hr
  delta b_check_process
  exact (ms_one (ms_if ((mw_or (mt_not (mt_of (mc_call c_is_integer (hr.mono (by decide)) (by exact rfl) tkD (ma_cons (me_var 1) ma_nil) (len_cons len_nil)))) (mw_or1 (mt_cmp (ow_notin (hr).units) calm_in (me_var 1) (me_fld (c := 9) T.cls9 (T.at9 "spaces" (by decide +kernel)) (me_var 0)))))).pt
    (ms_one (ms_raise1 (by exact rfl) tkD (x_NoProcess.at_ (hr.mono (by decide))) (by exact rfl) T.nm2 (me_var 1)))
    ms_nil))
theorem sc_gap_in : FnScope N_gap_in ["space", "count"] (defScope s_gap_in) := ⟨rfl, rfl, rfl, by decide +kernel, rfl, by decide +kernel, by decide +kernel⟩
theorem w_gap_in {f : Addr} (T : Txt K mg cl)   : BodyOk P w K mg base cl 0 f N_gap_in "gap_in" (defScope s_gap_in) (defBody s_gap_in) b_gap_in := by
  intro cdv A outer s H E hr
  delta b_gap_in
  exact (ms_cons (ms_set (i := 2) sc_gap_in.nd (by exact rfl) (by first | exact Or.inl (by exact rfl) | exact Or.inr rfl) me_int)
    (ms_cons (ms_for (vs := [3]) poD (by exact rfl) (mw_range1 (by exact rfl) (T.no_ "range" (by decide +kernel)) (ma_cons (me_gi (by exact rfl) T.gc_PAGES) ma_nil)) (mg_name (i := 3) sc_gap_in.nd (by exact rfl) (by first | exact Or.inl (by exact rfl) | exact Or.inr rfl) (by decide))
    (ms_cons (ms_set (i := 2) sc_gap_in.nd (by exact rfl) (by first | exact Or.inl (by exact rfl) | exact Or.inr rfl) (me_if (mt_cmp (ow_in (hr).units) calm_in (me_var 3) (me_var 0)) me_int (me_add (me_var 2) me_int)))
    (ms_one (ms_if (mt_cmp (ow_eq (hr).units) calm_eq (me_var 2) (me_var 1))
    (ms_one (ms_ret (me_add (me_sub (me_var 3) (me_var 1)) me_int)))
    ms_nil))))
    (ms_one (ms_ret me_non))))
theorem sc_gap : FnScope N_gap ["system", "process", "count"] (defScope s_gap) := ⟨rfl, rfl, rfl, by decide +kernel, rfl, by decide +kernel, by decide +kernel⟩
theorem w_gap {f : Addr} (T : Txt K mg cl) (c_check_process : CalM P w K mg base cl 3 "check_process" 2 [] p_check_process gp_check_process) (c_gap_in : CalM P w K mg base cl 1 "gap_in" 2 [] p_gap_in gp_gap_in) (c_is_between : CalM P w K mg base cl 2 "is_between" 3 [] p_is_between gp_is_between) (x_NoPages : ExM P w K mg base cl 3 "part") : BodyOk P w K mg base cl 3 f N_gap "gap" (defScope s_gap) (defBody s_gap) b_gap := by
  intro cdv A outer s H E hr
  delta b_gap
  exact (ms_cons (ms_expr (mc_call c_check_process (hr.mono (by decide)) (by exact rfl) tkD (ma_cons (me_var 0) (ma_cons (me_var 1) ma_nil)) (len_cons (len_cons len_nil))))
    (ms_cons (ms_if (mt_not (mt_of (mc_call c_is_between (hr.mono (by decide)) (by exact rfl) tkD (ma_cons (me_var 2) (ma_cons me_int (ma_cons (me_gi (by exact rfl) T.gc_PAGES) ma_nil))) (len_cons (len_cons (len_cons len_nil))))))
    (ms_one (ms_raise1 (by exact rfl) tkD (x_NoPages.at_ (hr.mono (by decide))) (by exact rfl) T.nm3 me_str))
    ms_nil)
    (ms_one (ms_ret (mc_call c_gap_in (hr.mono (by decide)) (by exact rfl) tkD (ma_cons (me_ix (hu_of hr) (me_fld (c := 9) T.cls9 (T.at9 "spaces" (by decide +kernel)) (me_var 0)) (me_var 1)) (ma_cons (me_var 2) ma_nil)) (len_cons (len_cons len_nil)))))))
theorem sc_Mapped___init__ : FnScope N_Mapped___init__ ["self", "rights", "shared", "source", "index", "stamp"] (defScope s_Mapped___init__) := ⟨rfl, rfl, rfl, by decide +kernel, rfl, by decide +kernel, by decide +kernel⟩
theorem w_Mapped___init__ {f : Addr} (T : Txt K mg cl)   : BodyOk P w K mg base cl 0 f N_Mapped___init__ "Mapped.__init__" (defScope s_Mapped___init__) (defBody s_Mapped___init__) b_Mapped___init__ := by
  intro cdv A outer s H E hr
  delta b_Mapped___init__
  exact (ms_cons (ms_fld (c := 6) T.cls6 (T.at6 "rights" (by decide +kernel)) (T.fl6 "rights" (by decide +kernel)) (me_var 0) (me_var 1))
    (ms_cons (ms_fld (c := 6) T.cls6 (T.at6 "shared" (by decide +kernel)) (T.fl6 "shared" (by decide +kernel)) (me_var 0) (me_var 2))
    (ms_cons (ms_fld (c := 6) T.cls6 (T.at6 "source" (by decide +kernel)) (T.fl6 "source" (by decide +kernel)) (me_var 0) (me_var 3))
    (ms_cons (ms_fld (c := 6) T.cls6 (T.at6 "index" (by decide +kernel)) (T.fl6 "index" (by decide +kernel)) (me_var 0) (me_var 4))
    (ms_cons (ms_fld (c := 6) T.cls6 (T.at6 "flags" (by decide +kernel)) (T.fl6 "flags" (by decide +kernel)) (me_var 0) (me_tup ma_nil))
    (ms_cons (ms_fld (c := 6) T.cls6 (T.at6 "held" (by decide +kernel)) (T.fl6 "held" (by decide +kernel)) (me_var 0) me_non)
    (ms_one (ms_fld (c := 6) T.cls6 (T.at6 "stamp" (by decide +kernel)) (T.fl6 "stamp" (by decide +kernel)) (me_var 0) (me_var 5)))))))))
theorem sc_Stack_put : FnScope N_Stack_put ["self", "at", "item"] (defScope s_Stack_put) := ⟨rfl, rfl, rfl, by decide +kernel, rfl, by decide +kernel, by decide +kernel⟩
theorem w_Stack_put {f : Addr} (T : Txt K mg cl)   : BodyOk P w K mg base cl 0 f N_Stack_put "Stack.put" (defScope s_Stack_put) (defBody s_Stack_put) b_Stack_put := by
  intro cdv A outer s H E hr
  delta b_Stack_put
  exact (ms_cons (ms_setIx (hu_of hr) (me_fld (c := 8) T.cls8 (T.at8 "row" (by decide +kernel)) (me_var 0)) (me_var 1) (me_var 2))
    (ms_one (ms_if (mt_cmp ow_notN calm_notN (me_var 2) me_non)
    mss_stuck
    ms_nil)))
theorem sc_Stack_relock : FnScope N_Stack_relock ["self", "locked"] (defScope s_Stack_relock) := ⟨rfl, rfl, rfl, by decide +kernel, rfl, by decide +kernel, by decide +kernel⟩
theorem w_Stack_relock {f : Addr} (T : Txt K mg cl) (c_Stack_put : MetM P w K mg base cl 1 8 "put" 2 p_Stack_put gp_Stack_put)  : BodyOk P w K mg base cl 1 f N_Stack_relock "Stack.relock" (defScope s_Stack_relock) (defBody s_Stack_relock) b_Stack_relock := by
  intro cdv A outer s H E hr
  delta b_Stack_relock
  exact (ms_cons (ms_locks (idE (mSl (mFld 8 "row" (mVar 0)) moNone (moSome (mFld 8 "locked" (mVar 0))))) (ms_setLc (i := 2) (own := [("item", 3)]) (by exact rfl) sc_Stack_relock.nd (by exact rfl) (by exact rfl) (sw_true (by exact rfl) (by exact rfl) (by exact rfl) (by decide +kernel)) (mw_e (me_slice (me_fld (c := 8) T.cls8 (T.at8 "row" (by decide +kernel)) (me_var 0)) mo_none (mo_some (me_fld (c := 8) T.cls8 (T.at8 "locked" (by decide +kernel)) (me_var 0))))) (blkOk_by (N := N_Stack_relock) (by show blkC N_Stack_relock (defScope s_Stack_relock) _ _ = true; decide +kernel)) (fun _ _ _ _ _ => (mg_name (i := 3) sc_Stack_relock.nd (by exact rfl) (by first | exact Or.inl (by exact rfl) | exact Or.inr rfl) (by decide))) (fun _ _ _ _ _ => (mts_one (mt_cmp ow_notN calm_notN (me_var 3) me_non))) (fun _ _ _ _ _ => (me_var 3))))
    (ms_cons (ms_locks (idE (mVar 2)) (ms_setLc (i := 4) (own := [("item", 3)]) (by exact rfl) sc_Stack_relock.nd (by exact rfl) (by exact rfl) (sw_true (by exact rfl) (by exact rfl) (by exact rfl) (by decide +kernel)) (mw_e (me_var 2)) (blkOk_by (N := N_Stack_relock) (by show blkC N_Stack_relock (defScope s_Stack_relock) _ _ = true; decide +kernel)) (fun _ _ _ _ _ => (mg_name (i := 3) sc_Stack_relock.nd (by exact rfl) (by first | exact Or.inl (by exact rfl) | exact Or.inr rfl) (by decide))) (fun _ _ _ _ _ => (mts_one (mt_cmp (ow_in (hr).units) calm_in me_stuck (me_var 1)))) (fun _ _ _ _ _ => (me_var 3))))
    (ms_cons (ms_locks (idE (mVar 2)) (ms_setLc (i := 5) (own := [("item", 3)]) (by exact rfl) sc_Stack_relock.nd (by exact rfl) (by exact rfl) (sw_true (by exact rfl) (by exact rfl) (by exact rfl) (by decide +kernel)) (mw_e (me_var 2)) (blkOk_by (N := N_Stack_relock) (by show blkC N_Stack_relock (defScope s_Stack_relock) _ _ = true; decide +kernel)) (fun _ _ _ _ _ => (mg_name (i := 3) sc_Stack_relock.nd (by exact rfl) (by first | exact Or.inl (by exact rfl) | exact Or.inr rfl) (by decide))) (fun _ _ _ _ _ => (mts_one (mt_cmp (ow_notin (hr).units) calm_in me_stuck (me_var 1)))) (fun _ _ _ _ _ => (me_var 3))))
    (ms_cons (ms_locks (idE (mSl (mFld 8 "row" (mVar 0)) (moSome (mFld 8 "locked" (mVar 0))) moNone)) (ms_setLc (i := 6) (own := [("item", 3)]) (by exact rfl) sc_Stack_relock.nd (by exact rfl) (by exact rfl) (sw_true (by exact rfl) (by exact rfl) (by exact rfl) (by decide +kernel)) (mw_e (me_slice (me_fld (c := 8) T.cls8 (T.at8 "row" (by decide +kernel)) (me_var 0)) (mo_some (me_fld (c := 8) T.cls8 (T.at8 "locked" (by decide +kernel)) (me_var 0))) mo_none)) (blkOk_by (N := N_Stack_relock) (by show blkC N_Stack_relock (defScope s_Stack_relock) _ _ = true; decide +kernel)) (fun _ _ _ _ _ => (mg_name (i := 3) sc_Stack_relock.nd (by exact rfl) (by first | exact Or.inl (by exact rfl) | exact Or.inr rfl) (by decide))) (fun _ _ _ _ _ => (mts_one ((mw_and (mt_cmp ow_notN calm_notN (me_var 3) me_non) (mw_and1 (mt_cmp (ow_in (hr).units) calm_in me_stuck (me_var 1))))).pt)) (fun _ _ _ _ _ => (me_var 3))))
    (ms_cons (ms_set (i := 7) sc_Stack_relock.nd (by exact rfl) (by first | exact Or.inl (by exact rfl) | exact Or.inr rfl) (me_add (me_fld (c := 8) T.cls8 (T.at8 "locked" (by decide +kernel)) (me_var 0)) (me_callB cr_len (by exact rfl) (T.no_ "len" (by decide +kernel)) (by decide +kernel) (ma_cons (me_var 6) ma_nil))))
    (ms_cons (ms_set (i := 8) sc_Stack_relock.nd (by exact rfl) (by first | exact Or.inl (by exact rfl) | exact Or.inr rfl) (me_add (me_add (me_var 4) (me_var 6)) (me_var 5)))
    (ms_cons (ms_for (vs := [9]) poD (by exact rfl) (mw_range1 (by exact rfl) (T.no_ "range" (by decide +kernel)) (ma_cons (me_var 7) ma_nil)) (mg_name (i := 9) sc_Stack_relock.nd (by exact rfl) (by first | exact Or.inl (by exact rfl) | exact Or.inr rfl) (by decide))
    (ms_one (ms_expr (mc_meth c_Stack_put (hr.mono (by decide)) (me_var 0) tkD (ma_cons (me_var 9) (ma_cons (me_if (mt_cmp ow_lt calm_II (me_var 9) (me_callB cr_len (by exact rfl) (T.no_ "len" (by decide +kernel)) (by decide +kernel) (ma_cons (me_var 8) ma_nil))) (me_ix (hu_of hr) (me_var 8) (me_var 9)) me_non) ma_nil)) (len_cons (len_cons len_nil))))))
    (ms_cons (ms_lock (mVar 5) (ms_for (vs := [3]) poD (by exact rfl) (mw_e (me_var 5)) (mg_name (i := 3) sc_Stack_relock.nd (by exact rfl) (by first | exact Or.inl (by exact rfl) | exact Or.inr rfl) (by decide))
    mss_stuck))
    (ms_one (ms_fld (c := 8) T.cls8 (T.at8 "locked" (by decide +kernel)) (T.fl8 "locked" (by decide +kernel)) (me_var 0) (me_add (me_callB cr_len (by exact rfl) (T.no_ "len" (by decide +kernel)) (by decide +kernel) (ma_cons (me_var 4) ma_nil)) (me_callB cr_len (by exact rfl) (T.no_ "len" (by decide +kernel)) (by decide +kernel) (ma_cons (me_var 6) ma_nil)))))))))))))
theorem sc_System_locked_items : FnScope N_System_locked_items ["self"] (defScope s_System_locked_items) := ⟨rfl, rfl, rfl, by decide +kernel, rfl, by decide +kernel, by decide +kernel⟩
theorem w_System_locked_items {f : Addr} (T : Txt K mg cl)   : BodyOk P w K mg base cl 0 f N_System_locked_items "System.locked_items" (defScope s_System_locked_items) (defBody s_System_locked_items) b_System_locked_items := by
  intro cdv A outer s H E hr
  delta b_System_locked_items
  exact (ms_cons (ms_locks (idE2 (mFld 9 "spaces" (mVar 0))) (ms_setLc2 (i := 1) (own := [("space", 2), ("mapped", 3)]) (vs1 := [3]) (by exact rfl) sc_System_locked_items.nd (by exact rfl) (by exact rfl) (sw_true (by exact rfl) (by exact rfl) (by exact rfl) (by decide +kernel)) (mw_values (me_fld (c := 9) T.cls9 (T.at9 "spaces" (by decide +kernel)) (me_var 0))) (blkOk_by (N := N_System_locked_items) (by show blkC N_System_locked_items (defScope s_System_locked_items) _ _ = true; decide +kernel)) (by decide) (fun _ _ _ _ _ => (mg_name (i := 2) sc_System_locked_items.nd (by exact rfl) (by first | exact Or.inl (by exact rfl) | exact Or.inr rfl) (by decide))) (fun _ _ _ _ _ => mts_nil) (fun _ _ _ _ _ => (mw_values (me_var 2))) (fun _ _ _ _ _ => (mg_name (i := 3) sc_System_locked_items.nd (by exact rfl) (by first | exact Or.inl (by exact rfl) | exact Or.inr rfl) (by decide))) (fun _ _ _ _ _ => (mts_one (mt_cmp (ow_in (hr).units) calm_in me_str (me_fld (c := 6) T.cls6 (T.at6 "flags" (by decide +kernel)) (me_var 3))))) (fun _ _ _ _ _ => (me_var 3))))
    (ms_one (ms_ret (me_lock (idE (mVar 1)) (me_dc (own := [("mapped", 3)]) (by exact rfl) sc_System_locked_items.nd (mw_e (me_var 1)) (blkOk_by (N := N_System_locked_items) (by show blkC N_System_locked_items (defScope s_System_locked_items) _ _ = true; decide +kernel)) (fun _ _ _ _ _ => (mg_name (i := 3) sc_System_locked_items.nd (by exact rfl) (by first | exact Or.inl (by exact rfl) | exact Or.inr rfl) (by decide))) (fun _ _ _ _ _ => mts_nil) (fun _ _ _ _ _ => me_stuck) (fun _ _ _ _ _ => me_bl))))))
theorem sc_System_locked_pages : FnScope N_System_locked_pages ["self"] (defScope s_System_locked_pages) := ⟨rfl, rfl, rfl, by decide +kernel, rfl, by decide +kernel, by decide +kernel⟩
theorem w_System_locked_pages {f : Addr} (T : Txt K mg cl)   : BodyOk P w K mg base cl 0 f N_System_locked_pages "System.locked_pages" (defScope s_System_locked_pages) (defBody s_System_locked_pages) b_System_locked_pages := by
  intro cdv A outer s H E hr
  delta b_System_locked_pages
  exact (ms_one (ms_ret (me_callB (cr_sum' rfl) (by exact rfl) (T.no_ "sum" (by decide +kernel)) (by decide +kernel) (ma_cons (me_lock (idE2 (mFld 9 "spaces" (mVar 0))) (me_lc2 (own := [("space", 1), ("mapped", 2)]) (vs1 := [2]) (by exact rfl) sc_System_locked_pages.nd (mw_values (me_fld (c := 9) T.cls9 (T.at9 "spaces" (by decide +kernel)) (me_var 0))) (blkOk_by (N := N_System_locked_pages) (by show blkC N_System_locked_pages (defScope s_System_locked_pages) _ _ = true; decide +kernel)) (by decide) (fun _ _ _ _ _ => (mg_name (i := 1) sc_System_locked_pages.nd (by exact rfl) (by first | exact Or.inl (by exact rfl) | exact Or.inr rfl) (by decide))) (fun _ _ _ _ _ => mts_nil) (fun _ _ _ _ _ => (mw_values (me_var 1))) (fun _ _ _ _ _ => (mg_name (i := 2) sc_System_locked_pages.nd (by exact rfl) (by first | exact Or.inl (by exact rfl) | exact Or.inr rfl) (by decide))) (fun _ _ _ _ _ => (mts_one (mt_cmp (ow_in (hr).units) calm_in me_str (me_fld (c := 6) T.cls6 (T.at6 "flags" (by decide +kernel)) (me_var 2))))) (fun _ _ _ _ _ => me_int))) ma_nil))))
theorem sc_System_settle : FnScope N_System_settle ["self"] (defScope s_System_settle) := ⟨rfl, rfl, rfl, by decide +kernel, rfl, by decide +kernel, by decide +kernel⟩
theorem w_System_settle {f : Addr} (T : Txt K mg cl) (c_Stack_relock : MetM P w K mg base cl 2 8 "relock" 1 p_Stack_relock gp_Stack_relock) (c_System_locked_items : MetM P w K mg base cl 1 9 "locked_items" 0 p_System_locked_items gp_System_locked_items) (c_System_locked_pages : MetM P w K mg base cl 1 9 "locked_pages" 0 p_System_locked_pages gp_System_locked_pages)  : BodyOk P w K mg base cl 2 f N_System_settle "System.settle" (defScope s_System_settle) (defBody s_System_settle) b_System_settle := by
  intro cdv A outer s H E hr
  delta b_System_settle
  exact (ms_cons (ms_fld (c := 9) T.cls9 (T.at9 "most_locked" (by decide +kernel)) (T.fl9 "most_locked" (by decide +kernel)) (me_var 0) (me_callB (CR_or (cr_max2 rfl) (cr_maxL rfl)) (by exact rfl) (T.no_ "max" (by decide +kernel)) (by decide +kernel) (ma_cons (me_fld (c := 9) T.cls9 (T.at9 "most_locked" (by decide +kernel)) (me_var 0)) (ma_cons (mc_meth0 c_System_locked_pages (hr.mono (by decide)) (me_var 0) tkD) ma_nil))))
    (ms_one (ms_expr (mc_meth c_Stack_relock (hr.mono (by decide)) (me_fld (c := 9) T.cls9 (T.at9 "stack" (by decide +kernel)) (me_var 0)) tkD (ma_cons (mc_meth0 c_System_locked_items (hr.mono (by decide)) (me_var 0) tkD) ma_nil) (len_cons len_nil)))))
theorem sc_sorted_pages : FnScope N_sorted_pages ["space"] (defScope s_sorted_pages) := ⟨rfl, rfl, rfl, by decide +kernel, rfl, by decide +kernel, by decide +kernel⟩
theorem w_sorted_pages {f : Addr} (T : Txt K mg cl)   : BodyOk P w K mg base cl 0 f N_sorted_pages "sorted_pages" (defScope s_sorted_pages) (defBody s_sorted_pages) b_sorted_pages := by
  intro cdv A outer s H E hr
  delta b_sorted_pages
  exact (ms_one (ms_ret (me_lc (own := [("page", 1)]) (by exact rfl) sc_sorted_pages.nd (mw_e (me_callB (CR_or cr_srtL (cr_srtA rfl)) (by exact rfl) (T.no_ "sorted" (by decide +kernel)) (by decide +kernel) (ma_cons (me_var 0) ma_nil))) (blkOk_by (N := N_sorted_pages) (by show blkC N_sorted_pages (defScope s_sorted_pages) _ _ = true; decide +kernel)) (fun _ _ _ _ _ => (mg_name (i := 1) sc_sorted_pages.nd (by exact rfl) (by first | exact Or.inl (by exact rfl) | exact Or.inr rfl) (by decide))) (fun _ _ _ _ _ => mts_nil) (fun _ _ _ _ _ => (me_tup (ma_cons (me_var 1) (ma_cons (me_ix (hu_of hr) (me_var 0) (me_var 1)) ma_nil)))))))
theorem sc_places : FnScope N_places ["system"] (defScope s_places) := ⟨rfl, rfl, rfl, by decide +kernel, rfl, by decide +kernel, by decide +kernel⟩
theorem w_places {f : Addr} (T : Txt K mg cl) (c_sorted_pages : CalM P w K mg base cl 1 "sorted_pages" 1 [] p_sorted_pages gp_sorted_pages)  : BodyOk P w K mg base cl 1 f N_places "places" (defScope s_places) (defBody s_places) b_places := by
  intro cdv A outer s H E hr
  delta b_places
  exact (ms_cons (ms_set (i := 1) sc_places.nd (by exact rfl) (by first | exact Or.inl (by exact rfl) | exact Or.inr rfl) (me_lst ma_nil))
    (ms_cons (ms_for (vs := [2]) poD (by exact rfl) (mw_e (me_callB (CR_or cr_srtL (cr_srtA rfl)) (by exact rfl) (T.no_ "sorted" (by decide +kernel)) (by decide +kernel) (ma_cons (me_fld (c := 9) T.cls9 (T.at9 "spaces" (by decide +kernel)) (me_var 0)) ma_nil))) (mg_name (i := 2) sc_places.nd (by exact rfl) (by first | exact Or.inl (by exact rfl) | exact Or.inr rfl) (by decide))
    (ms_one (ms_expr (me_bm PySem.F.plainAttrs_list PySem.F.slot_list_extend PySem.F.type_list_extend ty_list mr_extend (me_var 1) (ma_cons (me_lc (own := [("page", 3), ("mapped", 4)]) (by exact rfl) sc_places.nd (mw_e (mc_call c_sorted_pages (hr.mono (by decide)) (by exact rfl) tkD (ma_cons (me_ix (hu_of hr) (me_fld (c := 9) T.cls9 (T.at9 "spaces" (by decide +kernel)) (me_var 0)) (me_var 2)) ma_nil) (len_cons len_nil))) (blkOk_by (N := N_places) (by show blkC N_places (defScope s_places) _ _ = true; decide +kernel)) (fun _ _ _ _ _ => (mg_tup (by exact rfl) (mgs_cons (mg_name (i := 3) sc_places.nd (by exact rfl) (by first | exact Or.inl (by exact rfl) | exact Or.inr rfl) (by decide)) (mgs_cons (mg_name (i := 4) sc_places.nd (by exact rfl) (by first | exact Or.inl (by exact rfl) | exact Or.inr rfl) (by decide)) mgs_nil)))) (fun _ _ _ _ _ => mts_nil) (fun _ _ _ _ _ => (me_tup (ma_cons (me_tup (ma_cons (me_var 2) (ma_cons (me_var 3) ma_nil))) (ma_cons (me_var 4) ma_nil))))) ma_nil)))))
    (ms_one (ms_ret (me_var 1)))))
theorem sc_tidy : FnScope N_tidy ["system"] (defScope s_tidy) := ⟨rfl, rfl, rfl, by decide +kernel, rfl, by decide +kernel, by decide +kernel⟩
theorem w_tidy {f : Addr} (T : Txt K mg cl) (c_System_settle : MetM P w K mg base cl 3 9 "settle" 0 p_System_settle gp_System_settle) (c_places : CalM P w K mg base cl 2 "places" 1 [] p_places gp_places)  : BodyOk P w K mg base cl 3 f N_tidy "tidy" (defScope s_tidy) (defBody s_tidy) b_tidy := by
  intro cdv A outer s H E hr
  delta b_tidy
  exact (ms_cons (ms_set (i := 1) sc_tidy.nd (by exact rfl) (by first | exact Or.inl (by exact rfl) | exact Or.inr rfl) me_dict0)
    (ms_cons (ms_for (vs := [2, 3]) poD (by exact rfl) (mw_e (mc_call c_places (hr.mono (by decide)) (by exact rfl) tkD (ma_cons (me_var 0) ma_nil) (len_cons len_nil))) (mg_tup (by exact rfl) (mgs_cons (mg_name (i := 2) sc_tidy.nd (by exact rfl) (by first | exact Or.inl (by exact rfl) | exact Or.inr rfl) (by decide)) (mgs_cons (mg_name (i := 3) sc_tidy.nd (by exact rfl) (by first | exact Or.inl (by exact rfl) | exact Or.inr rfl) (by decide)) mgs_nil)))
    (ms_one (ms_if ((mw_and (mt_cmp ow_notN calm_notN (me_fld (c := 6) T.cls6 (T.at6 "source" (by decide +kernel)) (me_var 3)) me_non) (mw_and1 (mt_cmp (ow_eq (hr).units) calm_eq (me_ix (hu_of hr) (me_fld (c := 6) T.cls6 (T.at6 "source" (by decide +kernel)) (me_var 3)) me_int) me_str)))).pt
    mss_stuck
    ms_nil)))
    (ms_cons (ms_for (vs := [4]) poD (by exact rfl) (mw_e (me_callTy (CR_or cr_lisL (CR_or (cr_lisD rfl) (cr_lisT rfl))) (by exact rfl) (T.no_ "list" (by decide +kernel)) (by decide +kernel) (ma_cons (me_fld (c := 9) T.cls9 (T.at9 "objects" (by decide +kernel)) (me_var 0)) ma_nil))) (mg_name (i := 4) sc_tidy.nd (by exact rfl) (by first | exact Or.inl (by exact rfl) | exact Or.inr rfl) (by decide))
    (ms_cons (ms_for (vs := [5]) poD (by exact rfl) (mw_e (me_callTy (CR_or cr_lisL (CR_or (cr_lisD rfl) (cr_lisT rfl))) (by exact rfl) (T.no_ "list" (by decide +kernel)) (by decide +kernel) (ma_cons (me_ix (hu_of hr) (me_fld (c := 9) T.cls9 (T.at9 "objects" (by decide +kernel)) (me_var 0)) (me_var 4)) ma_nil))) (mg_name (i := 5) sc_tidy.nd (by exact rfl) (by first | exact Or.inl (by exact rfl) | exact Or.inr rfl) (by decide))
    (ms_one (ms_if (mt_cmp (ow_notin (hr).units) calm_in (me_var 5) (me_bm PySem.F.plainAttrs_dict PySem.F.slot_dict_get PySem.F.type_dict_get ty_dict (mr_get2 (hu_of hr)) (me_var 1) (ma_cons (me_var 4) (ma_cons me_dict0 ma_nil))))
    mss_stuck
    ms_nil)))
    (ms_one (ms_if (mt_cmp (ow_notin (hr).units) calm_in (me_var 4) (me_var 1))
    (ms_one (ms_del (hu_of hr) (me_fld (c := 9) T.cls9 (T.at9 "objects" (by decide +kernel)) (me_var 0)) (me_var 4)))
    ms_nil))))
    (ms_one (ms_expr (mc_meth0 c_System_settle (hr.mono (by decide)) (me_var 0) tkD))))))
theorem sc_System_done : FnScope N_System_done ["self"] (defScope s_System_done) := ⟨rfl, rfl, rfl, by decide +kernel, rfl, by decide +kernel, by decide +kernel⟩
theorem w_System_done {f : Addr} (T : Txt K mg cl) (c_tidy : CalM P w K mg base cl 4 "tidy" 1 [] p_tidy gp_tidy)  : BodyOk P w K mg base cl 4 f N_System_done "System.done" (defScope s_System_done) (defBody s_System_done) b_System_done := by
  intro cdv A outer s H E hr
  delta b_System_done
  exact (ms_cons (ms_expr (mc_call c_tidy (hr.mono (by decide)) (by exact rfl) tkD (ma_cons (me_var 0) ma_nil) (len_cons len_nil)))
    (ms_one (ms_fldadd (c := 9) T.cls9 (T.at9 "step" (by decide +kernel)) (T.fl9 "step" (by decide +kernel)) (me_var 0) me_int)))
theorem sc_check_charge : FnScope N_check_charge ["system", "spaces", "sizes"] (defScope s_check_charge) := ⟨rfl, rfl, rfl, by decide +kernel, rfl, by decide +kernel, by decide +kernel⟩
theorem w_check_charge {f : Addr} (T : Txt K mg cl)   : BodyOk P w K mg base cl 0 f N_check_charge "check_charge" (defScope s_check_charge) (defBody s_check_charge) b_check_charge := by
  intro cdv A outer s H E hr
  delta b_check_charge
  exact (ms_cons (ms_if (mt_not (mt_of (me_fld (c := 9) T.cls9 (T.at9 "strict" (by decide +kernel)) (me_var 0))))
    (ms_one ms_retN)
    ms_nil)
    mss_stuck)
theorem sc_check_rights : FnScope N_check_rights ["rights"] (defScope s_check_rights) := ⟨rfl, rfl, rfl, by decide +kernel, rfl, by decide +kernel, by decide +kernel⟩
theorem w_check_rights {f : Addr} (T : Txt K mg cl)  (x_NoPages : ExM P w K mg base cl 3 "part") : BodyOk P w K mg base cl 2 f N_check_rights "check_rights" (defScope s_check_rights) (defBody s_check_rights) b_check_rights := by
  intro cdv A outer s H E hr
  delta b_check_rights
  exact (ms_one (ms_if ((mw_or (mt_not (mt_of (me_callB cr_isi (by exact rfl) (T.no_ "isinstance" (by decide +kernel)) (by decide +kernel) (ma_cons (me_var 0) (ma_cons (me_tyn (n := "str") (by exact rfl) (T.no_ "str" (by decide +kernel)) (by decide +kernel)) ma_nil))))) (mw_or1 (mt_cmp (ow_notin (hr).units) calm_in (me_var 0) (me_gtup (by exact rfl) T.gc_RIGHTS))))).pt
    (ms_one (ms_raise1 (by exact rfl) tkD (x_NoPages.at_ (hr.mono (by decide))) (by exact rfl) T.nm3 me_str))
    ms_nil))
theorem sc_is_name : FnScope N_is_name ["thing"] (defScope s_is_name) := ⟨rfl, rfl, rfl, by decide +kernel, rfl, by decide +kernel, by decide +kernel⟩
theorem w_is_name {f : Addr} (T : Txt K mg cl)   : BodyOk P w K mg base cl 0 f N_is_name "is_name" (defScope s_is_name) (defBody s_is_name) b_is_name := by
  intro cdv A outer s H E hr
  delta b_is_name
  exact (ms_one (ms_ret (me_and (me_callB cr_isi (by exact rfl) (T.no_ "isinstance" (by decide +kernel)) (by decide +kernel) (ma_cons (me_var 0) (ma_cons (me_tyn (n := "str") (by exact rfl) (T.no_ "str" (by decide +kernel)) (by decide +kernel)) ma_nil))) (me_and (me_lele me_int (me_callB cr_len (by exact rfl) (T.no_ "len" (by decide +kernel)) (by decide +kernel) (ma_cons (me_var 0) ma_nil)) me_int) (me_one (me_callB (cr_all' rfl) (by exact rfl) (T.no_ "all" (by decide +kernel)) (by decide +kernel) (ma_cons (me_lock (idE (mVar 0)) (me_lc (own := [("letter", 1)]) (by exact rfl) sc_is_name.nd (mw_e (me_var 0)) (blkOk_by (N := N_is_name) (by show blkC N_is_name (defScope s_is_name) _ _ = true; decide +kernel)) (fun _ _ _ _ _ => (mg_name (i := 1) sc_is_name.nd (by exact rfl) (by first | exact Or.inl (by exact rfl) | exact Or.inr rfl) (by decide))) (fun _ _ _ _ _ => mts_nil) (fun _ _ _ _ _ => (me_in (hr).units (me_var 1) (me_gs (by exact rfl) T.gc_LETTERS))))) ma_nil)))))))
theorem sc_check_source : FnScope N_check_source ["system", "source", "shared"] (defScope s_check_source) := ⟨rfl, rfl, rfl, by decide +kernel, rfl, by decide +kernel, by decide +kernel⟩
theorem w_check_source {f : Addr} (T : Txt K mg cl) (c_is_integer : CalM P w K mg base cl 1 "is_integer" 1 [] p_is_integer gp_is_integer) (c_is_name : CalM P w K mg base cl 1 "is_name" 1 [] p_is_name gp_is_name) (x_NoFile : ExM P w K mg base cl 4 "name") (x_NoPages : ExM P w K mg base cl 3 "part") : BodyOk P w K mg base cl 2 f N_check_source "check_source" (defScope s_check_source) (defBody s_check_source) b_check_source := by
  intro cdv A outer s H E hr
  delta b_check_source
  exact (ms_cons (ms_if (mt_cmp ow_isN calm_isN (me_var 1) me_non)
    (ms_one ms_retN)
    ms_nil)
    (ms_cons (ms_if ((mw_or (mt_not (mt_of (me_callB cr_isi (by exact rfl) (T.no_ "isinstance" (by decide +kernel)) (by decide +kernel) (ma_cons (me_var 1) (ma_cons (me_tyn (n := "tuple") (by exact rfl) (T.no_ "tuple" (by decide +kernel)) (by decide +kernel)) ma_nil))))) (mw_or1 (mt_cmp (ow_ne (hr).units) calm_ne (me_callB cr_len (by exact rfl) (T.no_ "len" (by decide +kernel)) (by decide +kernel) (ma_cons (me_var 1) ma_nil)) me_int)))).pt
    (ms_one (ms_raise1 (by exact rfl) tkD (x_NoPages.at_ (hr.mono (by decide))) (by exact rfl) T.nm3 me_str))
    ms_nil)
    (ms_cons (ms_asg (vs := [3, 4]) (me_var 1) (mg_tup (by exact rfl) (mgs_cons (mg_name (i := 3) sc_check_source.nd (by exact rfl) (by first | exact Or.inl (by exact rfl) | exact Or.inr rfl) (by decide)) (mgs_cons (mg_name (i := 4) sc_check_source.nd (by exact rfl) (by first | exact Or.inl (by exact rfl) | exact Or.inr rfl) (by decide)) mgs_nil))))
    (ms_one (ms_if ((mw_and (mt_of (me_callB cr_isi (by exact rfl) (T.no_ "isinstance" (by decide +kernel)) (by decide +kernel) (ma_cons (me_var 3) (ma_cons (me_tyn (n := "str") (by exact rfl) (T.no_ "str" (by decide +kernel)) (by decide +kernel)) ma_nil)))) (mw_and1 (mt_cmp (ow_eq (hr).units) calm_eq (me_var 3) me_str)))).pt
    (ms_one (ms_if ((mw_or (mt_not (mt_of (mc_call c_is_name (hr.mono (by decide)) (by exact rfl) tkD (ma_cons (me_var 4) ma_nil) (len_cons len_nil)))) (mw_or1 (mt_cmp (ow_notin (hr).units) calm_in (me_var 4) (me_fld (c := 9) T.cls9 (T.at9 "catalogue" (by decide +kernel)) (me_var 0)))))).pt
    (ms_one (ms_raise1 (by exact rfl) tkD (x_NoFile.at_ (hr.mono (by decide))) (by exact rfl) T.nm4 (me_var 4)))
    ms_nil))
    (ms_one (ms_if ((mw_or (mt_not (mt_of (me_callB cr_isi (by exact rfl) (T.no_ "isinstance" (by decide +kernel)) (by decide +kernel) (ma_cons (me_var 3) (ma_cons (me_tyn (n := "str") (by exact rfl) (T.no_ "str" (by decide +kernel)) (by decide +kernel)) ma_nil))))) (mw_or (mt_cmp (ow_ne (hr).units) calm_ne (me_var 3) me_str) (mw_or1 (mt_not (mt_of (me_var 2))))))).pt
    (ms_one (ms_raise1 (by exact rfl) tkD (x_NoPages.at_ (hr.mono (by decide))) (by exact rfl) T.nm3 me_str))
    (ms_one (ms_if ((mw_or (mt_not (mt_of (mc_call c_is_integer (hr.mono (by decide)) (by exact rfl) tkD (ma_cons (me_var 4) ma_nil) (len_cons len_nil)))) (mw_or1 (mt_cmp (ow_notin (hr).units) calm_in (me_var 4) (me_fld (c := 9) T.cls9 (T.at9 "objects" (by decide +kernel)) (me_var 0)))))).pt
    (ms_one (ms_raise1 (by exact rfl) tkD (x_NoPages.at_ (hr.mono (by decide))) (by exact rfl) T.nm3 me_str))
    ms_nil)))))))))
theorem sc_place_for : FnScope N_place_for ["space", "count", "at"] (defScope s_place_for) := ⟨rfl, rfl, rfl, by decide +kernel, rfl, by decide +kernel, by decide +kernel⟩
theorem w_place_for {f : Addr} (T : Txt K mg cl) (c_gap_in : CalM P w K mg base cl 1 "gap_in" 2 [] p_gap_in gp_gap_in) (c_is_between : CalM P w K mg base cl 2 "is_between" 3 [] p_is_between gp_is_between) (x_NoPages : ExM P w K mg base cl 3 "part") : BodyOk P w K mg base cl 2 f N_place_for "place_for" (defScope s_place_for) (defBody s_place_for) b_place_for := by
  intro cdv A outer s H E hr
  delta b_place_for
  exact (ms_cons (ms_if (mt_cmp ow_isN calm_isN (me_var 2) me_non)
    (ms_one (ms_set (i := 2) sc_place_for.nd (by exact rfl) (by first | exact Or.inl (by exact rfl) | exact Or.inr rfl) (mc_call c_gap_in (hr.mono (by decide)) (by exact rfl) tkD (ma_cons (me_var 0) (ma_cons (me_var 1) ma_nil)) (len_cons (len_cons len_nil)))))
    ms_nil)
    (ms_cons (ms_if (mt_not (mt_of (mc_call c_is_between (hr.mono (by decide)) (by exact rfl) tkD (ma_cons (me_var 2) (ma_cons me_int (ma_cons (me_sub (me_gi (by exact rfl) T.gc_PAGES) (me_var 1)) ma_nil))) (len_cons (len_cons (len_cons len_nil))))))
    (ms_one (ms_raise1 (by exact rfl) tkD (x_NoPages.at_ (hr.mono (by decide))) (by exact rfl) T.nm3 me_str))
    ms_nil)
    (ms_one (ms_ret (me_var 2)))))
theorem sc_let_go : FnScope N_let_go ["system", "place"] (defScope s_let_go) := ⟨rfl, rfl, rfl, by decide +kernel, rfl, by decide +kernel, by decide +kernel⟩
theorem w_let_go {f : Addr} (T : Txt K mg cl)   : BodyOk P w K mg base cl 0 f N_let_go "let_go" (defScope s_let_go) (defBody s_let_go) b_let_go := by
  intro cdv A outer s H E hr
  delta b_let_go
  exact (ms_cons (ms_set (i := 2) sc_let_go.nd (by exact rfl) (by first | exact Or.inl (by exact rfl) | exact Or.inr rfl) (me_ix (hu_of hr) (me_ix (hu_of hr) (me_fld (c := 9) T.cls9 (T.at9 "spaces" (by decide +kernel)) (me_var 0)) (me_ix (hu_of hr) (me_var 1) me_int)) (me_ix (hu_of hr) (me_var 1) me_int)))
    (ms_cons (ms_set (i := 3) sc_let_go.nd (by exact rfl) (by first | exact Or.inl (by exact rfl) | exact Or.inr rfl) (me_fld (c := 6) T.cls6 (T.at6 "held" (by decide +kernel)) (me_var 2)))
    (ms_cons (ms_if (mt_cmp ow_isN calm_isN (me_var 3) me_non)
    (ms_one ms_retN)
    ms_nil)
    (ms_cons (ms_fld (c := 6) T.cls6 (T.at6 "held" (by decide +kernel)) (T.fl6 "held" (by decide +kernel)) (me_var 2) me_non)
    mss_stuck))))
theorem sc_remove : FnScope N_remove ["system", "place"] (defScope s_remove) := ⟨rfl, rfl, rfl, by decide +kernel, rfl, by decide +kernel, by decide +kernel⟩
theorem w_remove {f : Addr} (T : Txt K mg cl) (c_let_go : CalM P w K mg base cl 1 "let_go" 2 [] p_let_go gp_let_go)  : BodyOk P w K mg base cl 1 f N_remove "remove" (defScope s_remove) (defBody s_remove) b_remove := by
  intro cdv A outer s H E hr
  delta b_remove
  exact (ms_cons (ms_expr (mc_call c_let_go (hr.mono (by decide)) (by exact rfl) tkD (ma_cons (me_var 0) (ma_cons (me_var 1) ma_nil)) (len_cons (len_cons len_nil))))
    (ms_one (ms_del (hu_of hr) (me_ix (hu_of hr) (me_fld (c := 9) T.cls9 (T.at9 "spaces" (by decide +kernel)) (me_var 0)) (me_ix (hu_of hr) (me_var 1) me_int)) (me_ix (hu_of hr) (me_var 1) me_int))))
theorem sc_map_pages : FnScope N_map_pages ["system", "process", "count", "rights", "shared", "source", "index", "at"] (defScope s_map_pages) := ⟨rfl, rfl, rfl, by decide +kernel, rfl, by decide +kernel, by decide +kernel⟩
theorem w_map_pages {f : Addr} (T : Txt K mg cl) (c_Mapped___init___kstamp : ClsM P w K mg base cl 1 6 "Mapped" 4 ["stamp"] p_Mapped___init__ gp_Mapped___init___kstamp) (c_System_done : MetM P w K mg base cl 5 9 "done" 0 p_System_done gp_System_done) (c_check_charge_d2 : CalM P w K mg base cl 1 "check_charge" 2 [] p_check_charge gp_check_charge_d2) (c_check_process : CalM P w K mg base cl 3 "check_process" 2 [] p_check_process gp_check_process) (c_check_rights : CalM P w K mg base cl 3 "check_rights" 1 [] p_check_rights gp_check_rights) (c_check_source : CalM P w K mg base cl 3 "check_source" 3 [] p_check_source gp_check_source) (c_is_between : CalM P w K mg base cl 2 "is_between" 3 [] p_is_between gp_is_between) (c_place_for : CalM P w K mg base cl 3 "place_for" 3 [] p_place_for gp_place_for) (c_remove : CalM P w K mg base cl 2 "remove" 2 [] p_remove gp_remove) (x_NoPages : ExM P w K mg base cl 3 "part") : BodyOk P w K mg base cl 5 f N_map_pages "map_pages" (defScope s_map_pages) (defBody s_map_pages) b_map_pages := by
  intro cdv A outer s H E hr
  delta b_map_pages
  exact (ms_cons (ms_expr (mc_call c_check_process (hr.mono (by decide)) (by exact rfl) tkD (ma_cons (me_var 0) (ma_cons (me_var 1) ma_nil)) (len_cons (len_cons len_nil))))
    (ms_cons (ms_if (mt_not (mt_of (mc_call c_is_between (hr.mono (by decide)) (by exact rfl) tkD (ma_cons (me_var 2) (ma_cons me_int (ma_cons (me_gi (by exact rfl) T.gc_PAGES) ma_nil))) (len_cons (len_cons (len_cons len_nil))))))
    (ms_one (ms_raise1 (by exact rfl) tkD (x_NoPages.at_ (hr.mono (by decide))) (by exact rfl) T.nm3 me_str))
    ms_nil)
    (ms_cons (ms_expr (mc_call c_check_rights (hr.mono (by decide)) (by exact rfl) tkD (ma_cons (me_var 3) ma_nil) (len_cons len_nil)))
    (ms_cons (ms_if (mt_not (mt_of (me_callB cr_isi (by exact rfl) (T.no_ "isinstance" (by decide +kernel)) (by decide +kernel) (ma_cons (me_var 4) (ma_cons (me_tyn (n := "bool") (by exact rfl) (T.no_ "bool" (by decide +kernel)) (by decide +kernel)) ma_nil)))))
    (ms_one (ms_raise1 (by exact rfl) tkD (x_NoPages.at_ (hr.mono (by decide))) (by exact rfl) T.nm3 me_str))
    ms_nil)
    (ms_cons (ms_expr (mc_call c_check_source (hr.mono (by decide)) (by exact rfl) tkD (ma_cons (me_var 0) (ma_cons (me_var 5) (ma_cons (me_var 4) ma_nil))) (len_cons (len_cons (len_cons len_nil)))))
    (ms_cons (ms_if ((mw_or (mt_not (mt_of (mc_call c_is_between (hr.mono (by decide)) (by exact rfl) tkD (ma_cons (me_var 6) (ma_cons me_int (ma_cons (me_sub (me_gi (by exact rfl) T.gc_PAGES) (me_var 2)) ma_nil))) (len_cons (len_cons (len_cons len_nil)))))) (mw_or1 ((mw_and (mt_cmp ow_isN calm_isN (me_var 5) me_non) (mw_and1 (mt_cmp (ow_ne (hr).units) calm_ne (me_var 6) me_int)))).pt))).pt
    (ms_one (ms_raise1 (by exact rfl) tkD (x_NoPages.at_ (hr.mono (by decide))) (by exact rfl) T.nm3 me_str))
    ms_nil)
    (ms_cons (ms_set (i := 7) sc_map_pages.nd (by exact rfl) (by first | exact Or.inl (by exact rfl) | exact Or.inr rfl) (mc_call c_place_for (hr.mono (by decide)) (by exact rfl) tkD (ma_cons (me_ix (hu_of hr) (me_fld (c := 9) T.cls9 (T.at9 "spaces" (by decide +kernel)) (me_var 0)) (me_var 1)) (ma_cons (me_var 2) (ma_cons (me_var 7) ma_nil))) (len_cons (len_cons (len_cons len_nil)))))
    (ms_cons (ms_set (i := 8) sc_map_pages.nd (by exact rfl) (by first | exact Or.inl (by exact rfl) | exact Or.inr rfl) (me_and (me_var 4) (me_one (me_isN (me_var 5) me_non))))
    (ms_cons (ms_if (mt_of (me_var 8))
    (ms_one (ms_set (i := 5) sc_map_pages.nd (by exact rfl) (by first | exact Or.inl (by exact rfl) | exact Or.inr rfl) (me_tup (ma_cons me_str (ma_cons (me_add (me_fld (c := 9) T.cls9 (T.at9 "last_object" (by decide +kernel)) (me_var 0)) me_int) ma_nil)))))
    ms_nil)
    (ms_cons (ms_set (i := 9) sc_map_pages.nd (by exact rfl) (by first | exact Or.inl (by exact rfl) | exact Or.inr rfl) me_dict0)
    (ms_cons (ms_for (vs := [10]) poD (by exact rfl) (mw_range1 (by exact rfl) (T.no_ "range" (by decide +kernel)) (ma_cons (me_var 2) ma_nil)) (mg_name (i := 10) sc_map_pages.nd (by exact rfl) (by first | exact Or.inl (by exact rfl) | exact Or.inr rfl) (by decide))
    (ms_one (ms_setIx (hu_of hr) (me_var 9) (me_add (me_var 7) (me_var 10)) (mc_makeK c_Mapped___init___kstamp (hr.mono (by decide)) (by exact rfl) tkD (ma_cons (me_var 3) (ma_cons (me_var 4) (ma_cons (me_var 5) (ma_cons (me_if (mt_cmp ow_isN calm_isN (me_var 5) me_non) me_non (me_add (me_var 6) (me_var 10))) ma_nil)))) (len_cons (len_cons (len_cons (len_cons len_nil)))) (mk_cons (me_add (me_fld (c := 9) T.cls9 (T.at9 "step" (by decide +kernel)) (me_var 0)) me_int) mk_nil) (len_cons len_nil)))))
    (ms_cons (ms_expr (mc_call c_check_charge_d2 (hr.mono (by decide)) (by exact rfl) tkD (ma_cons (me_var 0) (ma_cons (me_dstar1 (me_fld (c := 9) T.cls9 (T.at9 "spaces" (by decide +kernel)) (me_var 0)) (me_var 1) (me_dstar2 (me_ix (hu_of hr) (me_fld (c := 9) T.cls9 (T.at9 "spaces" (by decide +kernel)) (me_var 0)) (me_var 1)) (me_var 9))) ma_nil)) (len_cons (len_cons len_nil))))
    (ms_cons (ms_if (mt_of (me_var 8))
    (ms_cons (ms_fldadd (c := 9) T.cls9 (T.at9 "last_object" (by decide +kernel)) (T.fl9 "last_object" (by decide +kernel)) (me_var 0) me_int)
    (ms_one (ms_setIx (hu_of hr) (me_fld (c := 9) T.cls9 (T.at9 "objects" (by decide +kernel)) (me_var 0)) (me_fld (c := 9) T.cls9 (T.at9 "last_object" (by decide +kernel)) (me_var 0)) me_dict0)))
    ms_nil)
    (ms_cons (ms_lock (mVar 9) (ms_for (vs := [11]) poD (by exact rfl) (mw_e (me_var 9)) (mg_name (i := 11) sc_map_pages.nd (by exact rfl) (by first | exact Or.inl (by exact rfl) | exact Or.inr rfl) (by decide))
    (ms_one (ms_if (mt_cmp (ow_in (hr).units) calm_in (me_var 11) (me_ix (hu_of hr) (me_fld (c := 9) T.cls9 (T.at9 "spaces" (by decide +kernel)) (me_var 0)) (me_var 1)))
    (ms_one (ms_expr (mc_call c_remove (hr.mono (by decide)) (by exact rfl) tkD (ma_cons (me_var 0) (ma_cons (me_tup (ma_cons (me_var 1) (ma_cons (me_var 11) ma_nil))) ma_nil)) (len_cons (len_cons len_nil)))))
    ms_nil))))
    (ms_cons (ms_expr (me_bm PySem.F.plainAttrs_dict PySem.F.slot_dict_update PySem.F.type_dict_update ty_dict mr_update (me_ix (hu_of hr) (me_fld (c := 9) T.cls9 (T.at9 "spaces" (by decide +kernel)) (me_var 0)) (me_var 1)) (ma_cons (me_var 9) ma_nil)))
    (ms_cons (ms_expr (mc_meth0 c_System_done (hr.mono (by decide)) (me_var 0) tkD))
    (ms_one (ms_ret (me_var 7)))))))))))))))))))
theorem sc_Mapped_attributes : FnScope N_Mapped_attributes ["self"] (defScope s_Mapped_attributes) := ⟨rfl, rfl, rfl, by decide +kernel, rfl, by decide +kernel, by decide +kernel⟩
theorem w_Mapped_attributes {f : Addr} (T : Txt K mg cl)   : BodyOk P w K mg base cl 0 f N_Mapped_attributes "Mapped.attributes" (defScope s_Mapped_attributes) (defBody s_Mapped_attributes) b_Mapped_attributes := by
  intro cdv A outer s H E hr
  delta b_Mapped_attributes
  exact (ms_one (ms_ret (me_tup (ma_cons (me_fld (c := 6) T.cls6 (T.at6 "rights" (by decide +kernel)) (me_var 0)) (ma_cons (me_fld (c := 6) T.cls6 (T.at6 "shared" (by decide +kernel)) (me_var 0)) (ma_cons (me_fld (c := 6) T.cls6 (T.at6 "source" (by decide +kernel)) (me_var 0)) (ma_cons (me_fld (c := 6) T.cls6 (T.at6 "flags" (by decide +kernel)) (me_var 0)) ma_nil)))))))
theorem sc_follows : FnScope N_follows ["one", "other"] (defScope s_follows) := ⟨rfl, rfl, rfl, by decide +kernel, rfl, by decide +kernel, by decide +kernel⟩
theorem w_follows {f : Addr} (T : Txt K mg cl) (c_Mapped_attributes : MetM P w K mg base cl 1 6 "attributes" 0 p_Mapped_attributes gp_Mapped_attributes)  : BodyOk P w K mg base cl 1 f N_follows "follows" (defScope s_follows) (defBody s_follows) b_follows := by
  intro cdv A outer s H E hr
  delta b_follows
  exact (ms_cons (ms_if (mt_cmp (ow_ne (hr).units) calm_ne (mc_meth0 c_Mapped_attributes (hr.mono (by decide)) (me_var 0) tkD) (mc_meth0 c_Mapped_attributes (hr.mono (by decide)) (me_var 1) tkD))
    (ms_one (ms_ret me_bl))
    ms_nil)
    (ms_one (ms_ret (me_or (me_isN (me_either (me_fld (c := 6) T.cls6 (T.at6 "index" (by decide +kernel)) (me_var 0)) (me_fld (c := 8) T.cls8 (T.at8 "index" (by decide +kernel)) (me_var 0))) me_non) (me_one (me_eq (hr).units (me_either (me_fld (c := 6) T.cls6 (T.at6 "index" (by decide +kernel)) (me_var 1)) (me_fld (c := 8) T.cls8 (T.at8 "index" (by decide +kernel)) (me_var 1))) (me_add (me_either (me_fld (c := 6) T.cls6 (T.at6 "index" (by decide +kernel)) (me_var 0)) (me_fld (c := 8) T.cls8 (T.at8 "index" (by decide +kernel)) (me_var 0))) me_int)))))))
theorem sc_regions : FnScope N_regions ["system", "process"] (defScope s_regions) := ⟨rfl, rfl, rfl, by decide +kernel, rfl, by decide +kernel, by decide +kernel⟩
theorem w_regions {f : Addr} (T : Txt K mg cl) (c_check_process : CalM P w K mg base cl 3 "check_process" 2 [] p_check_process gp_check_process) (c_follows : CalM P w K mg base cl 2 "follows" 2 [] p_follows gp_follows) (c_sorted_pages : CalM P w K mg base cl 1 "sorted_pages" 1 [] p_sorted_pages gp_sorted_pages)  : BodyOk P w K mg base cl 3 f N_regions "regions" (defScope s_regions) (defBody s_regions) b_regions := by
  intro cdv A outer s H E hr
  delta b_regions
  exact (ms_cons (ms_expr (mc_call c_check_process (hr.mono (by decide)) (by exact rfl) tkD (ma_cons (me_var 0) (ma_cons (me_var 1) ma_nil)) (len_cons (len_cons len_nil))))
    (ms_cons (ms_set (i := 2) sc_regions.nd (by exact rfl) (by first | exact Or.inl (by exact rfl) | exact Or.inr rfl) (me_lst ma_nil))
    (ms_cons (ms_set (i := 3) sc_regions.nd (by exact rfl) (by first | exact Or.inl (by exact rfl) | exact Or.inr rfl) me_non)
    (ms_cons (ms_for (vs := [4, 5]) poD (by exact rfl) (mw_e (mc_call c_sorted_pages (hr.mono (by decide)) (by exact rfl) tkD (ma_cons (me_ix (hu_of hr) (me_fld (c := 9) T.cls9 (T.at9 "spaces" (by decide +kernel)) (me_var 0)) (me_var 1)) ma_nil) (len_cons len_nil))) (mg_tup (by exact rfl) (mgs_cons (mg_name (i := 4) sc_regions.nd (by exact rfl) (by first | exact Or.inl (by exact rfl) | exact Or.inr rfl) (by decide)) (mgs_cons (mg_name (i := 5) sc_regions.nd (by exact rfl) (by first | exact Or.inl (by exact rfl) | exact Or.inr rfl) (by decide)) mgs_nil)))
    (ms_cons (ms_if ((mw_and (mt_cmp (ow_ne (hr).units) calm_ne (me_var 2) (me_lst ma_nil)) (mw_and (mt_cmp (ow_eq (hr).units) calm_eq (me_add (me_ix (hu_of hr) (me_ix (hu_of hr) (me_var 2) (me_neg me_int)) me_int) (me_ix (hu_of hr) (me_ix (hu_of hr) (me_var 2) (me_neg me_int)) me_int)) (me_var 4)) (mw_and1 (mt_of (mc_call c_follows (hr.mono (by decide)) (by exact rfl) tkD (ma_cons (me_var 3) (ma_cons (me_var 5) ma_nil)) (len_cons (len_cons len_nil)))))))).pt
    mss_stuck
    (ms_one (ms_expr (me_bm PySem.F.plainAttrs_list PySem.F.slot_list_append PySem.F.type_list_append ty_list mr_append (me_var 2) (ma_cons (me_lst (ma_cons (me_var 4) (ma_cons me_int (ma_cons (me_fld (c := 6) T.cls6 (T.at6 "rights" (by decide +kernel)) (me_var 5)) (ma_cons (me_fld (c := 6) T.cls6 (T.at6 "shared" (by decide +kernel)) (me_var 5)) (ma_cons (me_fld (c := 6) T.cls6 (T.at6 "source" (by decide +kernel)) (me_var 5)) (ma_cons (me_either (me_fld (c := 6) T.cls6 (T.at6 "index" (by decide +kernel)) (me_var 5)) (me_fld (c := 8) T.cls8 (T.at8 "index" (by decide +kernel)) (me_var 5))) (ma_cons (me_fld (c := 6) T.cls6 (T.at6 "flags" (by decide +kernel)) (me_var 5)) ma_nil)))))))) ma_nil)))))
    (ms_one (ms_set (i := 3) sc_regions.nd (by exact rfl) (by first | exact Or.inl (by exact rfl) | exact Or.inr rfl) (me_var 5)))))
    (ms_one (ms_ret (me_lock (idE (mVar 2)) (me_lc (own := [("region", 6)]) (by exact rfl) sc_regions.nd (mw_e (me_var 2)) (blkOk_by (N := N_regions) (by show blkC N_regions (defScope s_regions) _ _ = true; decide +kernel)) (fun _ _ _ _ _ => (mg_name (i := 6) sc_regions.nd (by exact rfl) (by first | exact Or.inl (by exact rfl) | exact Or.inr rfl) (by decide))) (fun _ _ _ _ _ => mts_nil) (fun _ _ _ _ _ => me_stuck)))))))))
theorem sc_widest : FnScope N_widest ["system", "process"] (defScope s_widest) := ⟨rfl, rfl, rfl, by decide +kernel, rfl, by decide +kernel, by decide +kernel⟩
theorem w_widest {f : Addr} (T : Txt K mg cl) (c_check_process : CalM P w K mg base cl 3 "check_process" 2 [] p_check_process gp_check_process)  : BodyOk P w K mg base cl 3 f N_widest "widest" (defScope s_widest) (defBody s_widest) b_widest := by
  intro cdv A outer s H E hr
  delta b_widest
  exact (ms_cons (ms_expr (mc_call c_check_process (hr.mono (by decide)) (by exact rfl) tkD (ma_cons (me_var 0) (ma_cons (me_var 1) ma_nil)) (len_cons (len_cons len_nil))))
    (ms_cons (ms_set2 (i := 2) (j := 3) me_int (mg_name (i := 2) sc_widest.nd (by exact rfl) (by first | exact Or.inl (by exact rfl) | exact Or.inr rfl) (by decide)) (mg_name (i := 3) sc_widest.nd (by exact rfl) (by first | exact Or.inl (by exact rfl) | exact Or.inr rfl) (by decide)))
    (ms_cons (ms_for (vs := [4]) poD (by exact rfl) (mw_range1 (by exact rfl) (T.no_ "range" (by decide +kernel)) (ma_cons (me_gi (by exact rfl) T.gc_PAGES) ma_nil)) (mg_name (i := 4) sc_widest.nd (by exact rfl) (by first | exact Or.inl (by exact rfl) | exact Or.inr rfl) (by decide))
    (ms_cons (ms_set (i := 3) sc_widest.nd (by exact rfl) (by first | exact Or.inl (by exact rfl) | exact Or.inr rfl) (me_if (mt_cmp (ow_in (hr).units) calm_in (me_var 4) (me_ix (hu_of hr) (me_fld (c := 9) T.cls9 (T.at9 "spaces" (by decide +kernel)) (me_var 0)) (me_var 1))) me_int (me_add (me_var 3) me_int)))
    (ms_one (ms_set (i := 2) sc_widest.nd (by exact rfl) (by first | exact Or.inl (by exact rfl) | exact Or.inr rfl) (me_callB (CR_or (cr_max2 rfl) (cr_maxL rfl)) (by exact rfl) (T.no_ "max" (by decide +kernel)) (by decide +kernel) (ma_cons (me_var 2) (ma_cons (me_var 3) ma_nil)))))))
    (ms_one (ms_ret (me_var 2))))))
theorem sc__law_refused : FnScope N__law_refused ["well", "system", "process"] (defScope s__law_refused) := ⟨rfl, rfl, rfl, by decide +kernel, rfl, by decide +kernel, by decide +kernel⟩
theorem w__law_refused {f : Addr} (T : Txt K mg cl) (c__law_one : CalM P w K mg base cl 2 "_law_one" 2 [] p__law_one gp__law_one) (c_gap : CalM P w K mg base cl 4 "gap" 3 [] p_gap gp_gap) (c_map_pages_k0 : CalM P w K mg base cl 6 "map_pages" 3 [] p_map_pages gp_map_pages_k0) (c_regions : CalM P w K mg base cl 4 "regions" 2 [] p_regions gp_regions) (c_widest : CalM P w K mg base cl 4 "widest" 2 [] p_widest gp_widest)  (said__law_said : SaidM K mg "_law_said" "ask" s__law_said) {c P0 : Addr} (TF : TabF base mg cl c P0 ((("_law_refused" : Str) ++ (".<locals>." : Str)) ++ ("<lambda>" : Str))) : BodyAt P w K mg base cl 8 f (.ref c) N__law_refused "_law_refused" (defScope s__law_refused) (defBody s__law_refused) b__law_refused := by
  intro A outer s H E hr
  delta b__law_refused
  exact (ms_cons (ms_set (i := 3) sc__law_refused.nd (by exact rfl) (by first | exact Or.inl (by exact rfl) | exact Or.inr rfl) (mc_call c__law_one (hr.mono (by decide)) (by exact rfl) tkD (ma_cons (me_var 0) (ma_cons (me_lst (ma_cons me_int (ma_cons me_int (ma_cons (me_neg me_int) (ma_cons me_non (ma_cons me_str (ma_cons (me_eq (hr).units me_int me_int) (ma_cons (me_lst ma_nil) (ma_cons me_dict0 (ma_cons (me_tup (ma_cons me_int ma_nil)) (ma_cons (me_pow me_int me_int) ma_nil))))))))))) ma_nil)) (len_cons (len_cons len_nil))))
    (ms_cons (ms_if (mt_cmp (ow_ne (hr).units) calm_ne (mc_lam (k := 6) said__law_said (by exact rfl) (by rfl) sc__law_said (by rfl) (by first | exact Or.inl (by exact rfl) | exact Or.inr (Or.inl rfl) | exact Or.inr (Or.inr rfl) | exact Or.inr (by exact rfl) | decide) (subOf_ok T.subs) (hs := hs__law_said) (fun g cdv s H => hh__law_said T) (fun f => by rfl) TF (by rfl) (by rfl) (hr.mono (by decide)) (LamX.lamS_by (by show LamX.lamSB (defScope s__law_refused) _ = true; decide +kernel)) (by rfl) (fun _ _ _ _ _ => by rfl) (fun A outer s H E f c' hr2 => by exact (mc_call c_gap (hr2.mono (by decide)) (by exact rfl) (takes_of (by exact rfl) (by exact rfl) (by exact rfl) rfl) (ma_cons (me_var 1) (ma_cons (me_var 3) (ma_cons (mc_call c__law_one (hr2.mono (by decide)) (by exact rfl) (takes_of (by exact rfl) (by exact rfl) (by exact rfl) rfl) (ma_cons (me_var 0) (ma_cons (me_lst (ma_cons me_int (ma_cons me_int ma_nil))) ma_nil)) (len_cons (len_cons len_nil))) ma_nil))) (len_cons (len_cons (len_cons len_nil)))))) (me_tup (ma_cons me_str (ma_cons (me_var 3) ma_nil))))
    (ms_one (ms_ret me_bl))
    ms_nil)
    (ms_cons (ms_if (mt_cmp (ow_ne (hr).units) calm_ne (mc_lam (k := 6) said__law_said (by exact rfl) (by rfl) sc__law_said (by rfl) (by first | exact Or.inl (by exact rfl) | exact Or.inr (Or.inl rfl) | exact Or.inr (Or.inr rfl) | exact Or.inr (by exact rfl) | decide) (subOf_ok T.subs) (hs := hs__law_said) (fun g cdv s H => hh__law_said T) (fun f => by rfl) TF (by rfl) (by rfl) (hr.mono (by decide)) (LamX.lamS_by (by show LamX.lamSB (defScope s__law_refused) _ = true; decide +kernel)) (by rfl) (fun _ _ _ _ _ => by rfl) (fun A outer s H E f c' hr2 => by exact (mc_call c_widest (hr2.mono (by decide)) (by exact rfl) (takes_of (by exact rfl) (by exact rfl) (by exact rfl) rfl) (ma_cons (me_var 1) (ma_cons (me_var 3) ma_nil)) (len_cons (len_cons len_nil))))) (me_tup (ma_cons me_str (ma_cons (me_var 3) ma_nil))))
    (ms_one (ms_ret me_bl))
    ms_nil)
    (ms_cons (ms_if (mt_cmp (ow_ne (hr).units) calm_ne (mc_lam (k := 6) said__law_said (by exact rfl) (by rfl) sc__law_said (by rfl) (by first | exact Or.inl (by exact rfl) | exact Or.inr (Or.inl rfl) | exact Or.inr (Or.inr rfl) | exact Or.inr (by exact rfl) | decide) (subOf_ok T.subs) (hs := hs__law_said) (fun g cdv s H => hh__law_said T) (fun f => by rfl) TF (by rfl) (by rfl) (hr.mono (by decide)) (LamX.lamS_by (by show LamX.lamSB (defScope s__law_refused) _ = true; decide +kernel)) (by rfl) (fun _ _ _ _ _ => by rfl) (fun A outer s H E f c' hr2 => by exact (mc_call c_regions (hr2.mono (by decide)) (by exact rfl) (takes_of (by exact rfl) (by exact rfl) (by exact rfl) rfl) (ma_cons (me_var 1) (ma_cons (me_var 3) ma_nil)) (len_cons (len_cons len_nil))))) (me_tup (ma_cons me_str (ma_cons (me_var 3) ma_nil))))
    (ms_one (ms_ret me_bl))
    ms_nil)
    (ms_cons (ms_set (i := 3) sc__law_refused.nd (by exact rfl) (by first | exact Or.inl (by exact rfl) | exact Or.inr rfl) (mc_call c__law_one (hr.mono (by decide)) (by exact rfl) tkD (ma_cons (me_var 0) (ma_cons (me_lst (ma_cons me_int (ma_cons (me_neg me_int) (ma_cons me_int (ma_cons me_non (ma_cons me_str (ma_cons (me_eq (hr).units me_int me_int) (ma_cons (me_lst ma_nil) (ma_cons me_dict0 (ma_cons (me_tup (ma_cons me_int ma_nil)) (ma_cons (me_pow me_int me_int) ma_nil))))))))))) ma_nil)) (len_cons (len_cons len_nil))))
    (ms_cons (ms_if (mt_cmp (ow_ne (hr).units) calm_ne (mc_lam (k := 6) said__law_said (by exact rfl) (by rfl) sc__law_said (by rfl) (by first | exact Or.inl (by exact rfl) | exact Or.inr (Or.inl rfl) | exact Or.inr (Or.inr rfl) | exact Or.inr (by exact rfl) | decide) (subOf_ok T.subs) (hs := hs__law_said) (fun g cdv s H => hh__law_said T) (fun f => by rfl) TF (by rfl) (by rfl) (hr.mono (by decide)) (LamX.lamS_by (by show LamX.lamSB (defScope s__law_refused) _ = true; decide +kernel)) (by rfl) (fun _ _ _ _ _ => by rfl) (fun A outer s H E f c' hr2 => by exact (mc_call c_gap (hr2.mono (by decide)) (by exact rfl) (takes_of (by exact rfl) (by exact rfl) (by exact rfl) rfl) (ma_cons (me_var 1) (ma_cons (me_var 2) (ma_cons (me_var 3) ma_nil))) (len_cons (len_cons (len_cons len_nil)))))) (me_tup (ma_cons me_str (ma_cons me_str ma_nil))))
    (ms_one (ms_ret me_bl))
    ms_nil)
    (ms_cons (ms_if (mt_cmp (ow_ne (hr).units) calm_ne (mc_lam (k := 6) said__law_said (by exact rfl) (by rfl) sc__law_said (by rfl) (by first | exact Or.inl (by exact rfl) | exact Or.inr (Or.inl rfl) | exact Or.inr (Or.inr rfl) | exact Or.inr (by exact rfl) | decide) (subOf_ok T.subs) (hs := hs__law_said) (fun g cdv s H => hh__law_said T) (fun f => by rfl) TF (by rfl) (by rfl) (hr.mono (by decide)) (LamX.lamS_by (by show LamX.lamSB (defScope s__law_refused) _ = true; decide +kernel)) (by rfl) (fun _ _ _ _ _ => by rfl) (fun A outer s H E f c' hr2 => by exact (mc_call c_map_pages_k0 (hr2.mono (by decide)) (by exact rfl) (takes_of (by exact rfl) (by exact rfl) (by exact rfl) rfl) (ma_cons (me_var 1) (ma_cons (me_var 2) (ma_cons (me_var 3) ma_nil))) (len_cons (len_cons (len_cons len_nil)))))) (me_tup (ma_cons me_str (ma_cons me_str ma_nil))))
    (ms_one (ms_ret me_bl))
    ms_nil)
    (ms_one (ms_ret me_bl)))))))))
theorem sc__law_well : FnScope N__law_well ["cell"] (defScope s__law_well) := ⟨rfl, rfl, rfl, by decide +kernel, rfl, by decide +kernel, by decide +kernel⟩
theorem w__law_well {f : Addr} (T : Txt K mg cl)   : BodyOk P w K mg base cl 0 f N__law_well "_law_well" (defScope s__law_well) (defBody s__law_well) b__law_well := by
  intro cdv A outer s H E hr
  delta b__law_well
  exact (ms_one (ms_ret (me_lst (ma_cons (me_mul (me_var 0) (me_callTy cr_int (by exact rfl) (T.no_ "int" (by decide +kernel)) (by decide +kernel) (ma_cons (me_ge (me_var 0) (me_pow me_int me_int)) ma_nil))) (ma_cons (me_mod (me_callTy cr_int (by exact rfl) (T.no_ "int" (by decide +kernel)) (by decide +kernel) (ma_cons (me_var 0) ma_nil)) me_int) (ma_cons me_int ma_nil))))))
theorem sc__law_widest : FnScope N__law_widest ["space"] (defScope s__law_widest) := ⟨rfl, rfl, rfl, by decide +kernel, rfl, by decide +kernel, by decide +kernel⟩
theorem w__law_widest {f : Addr} (T : Txt K mg cl)   : BodyOk P w K mg base cl 0 f N__law_widest "_law_widest" (defScope s__law_widest) (defBody s__law_widest) b__law_widest := by
  intro cdv A outer s H E hr
  delta b__law_widest
  exact (ms_cons (ms_set (i := 1) sc__law_widest.nd (by exact rfl) (by first | exact Or.inl (by exact rfl) | exact Or.inr rfl) me_int)
    (ms_cons (ms_set (i := 2) sc__law_widest.nd (by exact rfl) (by first | exact Or.inl (by exact rfl) | exact Or.inr rfl) me_int)
    (ms_cons (ms_for (vs := [3]) poD (by exact rfl) (mw_range1 (by exact rfl) (T.no_ "range" (by decide +kernel)) (ma_cons me_int ma_nil)) (mg_name (i := 3) sc__law_widest.nd (by exact rfl) (by first | exact Or.inl (by exact rfl) | exact Or.inr rfl) (by decide))
    (ms_cons (ms_set (i := 2) sc__law_widest.nd (by exact rfl) (by first | exact Or.inl (by exact rfl) | exact Or.inr rfl) (me_add (me_var 2) me_int))
    (ms_cons (ms_if (mt_cmp (ow_in (hr).units) calm_in (me_var 3) (me_var 0))
    (ms_one (ms_set (i := 2) sc__law_widest.nd (by exact rfl) (by first | exact Or.inl (by exact rfl) | exact Or.inr rfl) me_int))
    ms_nil)
    (ms_one (ms_set (i := 1) sc__law_widest.nd (by exact rfl) (by first | exact Or.inl (by exact rfl) | exact Or.inr rfl) (me_callB (CR_or (cr_max2 rfl) (cr_maxL rfl)) (by exact rfl) (T.no_ "max" (by decide +kernel)) (by decide +kernel) (ma_cons (me_var 1) (ma_cons (me_var 2) ma_nil))))))))
    (ms_one (ms_ret (me_var 1))))))
theorem sc_new_process : FnScope N_new_process ["system"] (defScope s_new_process) := ⟨rfl, rfl, rfl, by decide +kernel, rfl, by decide +kernel, by decide +kernel⟩
theorem w_new_process {f : Addr} (T : Txt K mg cl)   : BodyOk P w K mg base cl 0 f N_new_process "new_process" (defScope s_new_process) (defBody s_new_process) b_new_process := by
  intro cdv A outer s H E hr
  delta b_new_process
  exact (ms_cons (ms_fldadd (c := 9) T.cls9 (T.at9 "last_process" (by decide +kernel)) (T.fl9 "last_process" (by decide +kernel)) (me_var 0) me_int)
    (ms_cons (ms_setIx (hu_of hr) (me_fld (c := 9) T.cls9 (T.at9 "spaces" (by decide +kernel)) (me_var 0)) (me_fld (c := 9) T.cls9 (T.at9 "last_process" (by decide +kernel)) (me_var 0)) me_dict0)
    (ms_one (ms_ret (me_fld (c := 9) T.cls9 (T.at9 "last_process" (by decide +kernel)) (me_var 0))))))
theorem sc_spawn : FnScope N_spawn ["system"] (defScope s_spawn) := ⟨rfl, rfl, rfl, by decide +kernel, rfl, by decide +kernel, by decide +kernel⟩
theorem w_spawn {f : Addr} (T : Txt K mg cl) (c_System_done : MetM P w K mg base cl 5 9 "done" 0 p_System_done gp_System_done) (c_new_process : CalM P w K mg base cl 1 "new_process" 1 [] p_new_process gp_new_process)  : BodyOk P w K mg base cl 5 f N_spawn "spawn" (defScope s_spawn) (defBody s_spawn) b_spawn := by
  intro cdv A outer s H E hr
  delta b_spawn
  exact (ms_cons (ms_set (i := 1) sc_spawn.nd (by exact rfl) (by first | exact Or.inl (by exact rfl) | exact Or.inr rfl) (mc_call c_new_process (hr.mono (by decide)) (by exact rfl) tkD (ma_cons (me_var 0) ma_nil) (len_cons len_nil)))
    (ms_cons (ms_expr (mc_meth0 c_System_done (hr.mono (by decide)) (me_var 0) tkD))
    (ms_one (ms_ret (me_var 1)))))
theorem sc_check_range : FnScope N_check_range ["first", "count"] (defScope s_check_range) := ⟨rfl, rfl, rfl, by decide +kernel, rfl, by decide +kernel, by decide +kernel⟩
theorem w_check_range {f : Addr} (T : Txt K mg cl) (c_is_between : CalM P w K mg base cl 2 "is_between" 3 [] p_is_between gp_is_between) (x_NoPages : ExM P w K mg base cl 3 "part") : BodyOk P w K mg base cl 2 f N_check_range "check_range" (defScope s_check_range) (defBody s_check_range) b_check_range := by
  intro cdv A outer s H E hr
  delta b_check_range
  exact (ms_cons (ms_if (mt_not (mt_of (mc_call c_is_between (hr.mono (by decide)) (by exact rfl) tkD (ma_cons (me_var 0) (ma_cons me_int (ma_cons (me_sub (me_gi (by exact rfl) T.gc_PAGES) me_int) ma_nil))) (len_cons (len_cons (len_cons len_nil))))))
    (ms_one (ms_raise1 (by exact rfl) tkD (x_NoPages.at_ (hr.mono (by decide))) (by exact rfl) T.nm3 me_str))
    ms_nil)
    (ms_one (ms_if (mt_not (mt_of (mc_call c_is_between (hr.mono (by decide)) (by exact rfl) tkD (ma_cons (me_var 1) (ma_cons me_int (ma_cons (me_sub (me_gi (by exact rfl) T.gc_PAGES) (me_var 0)) ma_nil))) (len_cons (len_cons (len_cons len_nil))))))
    (ms_one (ms_raise1 (by exact rfl) tkD (x_NoPages.at_ (hr.mono (by decide))) (by exact rfl) T.nm3 me_str))
    ms_nil)))
theorem sc_unmap : FnScope N_unmap ["system", "process", "first", "count"] (defScope s_unmap) := ⟨rfl, rfl, rfl, by decide +kernel, rfl, by decide +kernel, by decide +kernel⟩
theorem w_unmap {f : Addr} (T : Txt K mg cl) (c_System_done : MetM P w K mg base cl 5 9 "done" 0 p_System_done gp_System_done) (c_check_process : CalM P w K mg base cl 3 "check_process" 2 [] p_check_process gp_check_process) (c_check_range : CalM P w K mg base cl 3 "check_range" 2 [] p_check_range gp_check_range) (c_remove : CalM P w K mg base cl 2 "remove" 2 [] p_remove gp_remove)  : BodyOk P w K mg base cl 5 f N_unmap "unmap" (defScope s_unmap) (defBody s_unmap) b_unmap := by
  intro cdv A outer s H E hr
  delta b_unmap
  exact (ms_cons (ms_expr (mc_call c_check_process (hr.mono (by decide)) (by exact rfl) tkD (ma_cons (me_var 0) (ma_cons (me_var 1) ma_nil)) (len_cons (len_cons len_nil))))
    (ms_cons (ms_expr (mc_call c_check_range (hr.mono (by decide)) (by exact rfl) tkD (ma_cons (me_var 2) (ma_cons (me_var 3) ma_nil)) (len_cons (len_cons len_nil))))
    (ms_cons (ms_for (vs := [4]) poD (by exact rfl) (mw_range2 (by exact rfl) (T.no_ "range" (by decide +kernel)) (ma_cons (me_var 2) (ma_cons (me_add (me_var 2) (me_var 3)) ma_nil))) (mg_name (i := 4) sc_unmap.nd (by exact rfl) (by first | exact Or.inl (by exact rfl) | exact Or.inr rfl) (by decide))
    (ms_one (ms_if (mt_cmp (ow_in (hr).units) calm_in (me_var 4) (me_ix (hu_of hr) (me_fld (c := 9) T.cls9 (T.at9 "spaces" (by decide +kernel)) (me_var 0)) (me_var 1)))
    (ms_one (ms_expr (mc_call c_remove (hr.mono (by decide)) (by exact rfl) tkD (ma_cons (me_var 0) (ma_cons (me_tup (ma_cons (me_var 1) (ma_cons (me_var 4) ma_nil))) ma_nil)) (len_cons (len_cons len_nil)))))
    ms_nil)))
    (ms_one (ms_expr (mc_meth0 c_System_done (hr.mono (by decide)) (me_var 0) tkD))))))
theorem sc_law : FnScope N_law ["script"] (defScope s_law) := ⟨rfl, rfl, rfl, by decide +kernel, rfl, by decide +kernel, by decide +kernel⟩
theorem w_law {f : Addr} (T : Txt K mg cl) (c_System___init___k0 : ClsM P w K mg base cl 3 9 "System" 0 [] p_System___init__ gp_System___init___k0) (c__law_draw : CalM P w K mg base cl 1 "_law_draw" 2 [] p__law_draw gp__law_draw) (c__law_fits : CalM P w K mg base cl 1 "_law_fits" 2 [] p__law_fits gp__law_fits) (c__law_one : CalM P w K mg base cl 2 "_law_one" 2 [] p__law_one gp__law_one) (c__law_refused : CalM P w K mg base cl 9 "_law_refused" 3 [] p__law_refused gp__law_refused) (c__law_well : CalM P w K mg base cl 1 "_law_well" 1 [] p__law_well gp__law_well) (c__law_widest : CalM P w K mg base cl 1 "_law_widest" 1 [] p__law_widest gp__law_widest) (c_gap : CalM P w K mg base cl 4 "gap" 3 [] p_gap gp_gap) (c_map_pages_k0 : CalM P w K mg base cl 6 "map_pages" 3 [] p_map_pages gp_map_pages_k0) (c_map_pages_kat : CalM P w K mg base cl 6 "map_pages" 3 ["at"] p_map_pages gp_map_pages_kat) (c_spawn : CalM P w K mg base cl 6 "spawn" 1 [] p_spawn gp_spawn) (c_unmap : CalM P w K mg base cl 6 "unmap" 4 [] p_unmap gp_unmap) (c_widest : CalM P w K mg base cl 4 "widest" 2 [] p_widest gp_widest)  (said__law_said : SaidM K mg "_law_said" "ask" s__law_said) {c P0 : Addr} (TF : TabF base mg cl c P0 ((("law" : Str) ++ (".<locals>." : Str)) ++ ("<lambda>" : Str))) : BodyAt P w K mg base cl 9 f (.ref c) N_law "law" (defScope s_law) (defBody s_law) b_law := by
  intro A outer s H E hr
  delta b_law
  exact (ms_cons (ms_for (vs := [1]) poD (by exact rfl) (mw_e (me_add (me_slice (me_var 0) mo_none (mo_some me_int)) (me_lst (ma_cons me_int (ma_cons me_int ma_nil))))) (mg_name (i := 1) sc_law.nd (by exact rfl) (by first | exact Or.inl (by exact rfl) | exact Or.inr rfl) (by decide))
    (ms_cons (ms_set (i := 2) sc_law.nd (by exact rfl) (by first | exact Or.inl (by exact rfl) | exact Or.inr rfl) (mc_call c__law_well (hr.mono (by decide)) (by exact rfl) tkD (ma_cons (me_var 1) ma_nil) (len_cons len_nil)))
    (ms_cons (ms_set (i := 3) sc_law.nd (by exact rfl) (by first | exact Or.inl (by exact rfl) | exact Or.inr rfl) (mc_make0 c_System___init___k0 (hr.mono (by decide)) (by exact rfl) tkD))
    (ms_cons (ms_set (i := 4) sc_law.nd (by exact rfl) (by first | exact Or.inl (by exact rfl) | exact Or.inr rfl) (mc_call c_spawn (hr.mono (by decide)) (by exact rfl) tkD (ma_cons (me_var 3) ma_nil) (len_cons len_nil)))
    (ms_cons (ms_set (i := 5) sc_law.nd (by exact rfl) (by first | exact Or.inl (by exact rfl) | exact Or.inr rfl) me_dict0)
    (ms_cons (ms_for (vs := [6]) poD (by exact rfl) (mw_range1 (by exact rfl) (T.no_ "range" (by decide +kernel)) (ma_cons (mc_call c__law_draw (hr.mono (by decide)) (by exact rfl) tkD (ma_cons (me_var 2) (ma_cons me_int ma_nil)) (len_cons (len_cons len_nil))) ma_nil)) (mg_name (i := 6) sc_law.nd (by exact rfl) (by first | exact Or.inl (by exact rfl) | exact Or.inr rfl) (by decide))
    (ms_cons (ms_set (i := 7) sc_law.nd (by exact rfl) (by first | exact Or.inl (by exact rfl) | exact Or.inr rfl) (mc_call c__law_one (hr.mono (by decide)) (by exact rfl) tkD (ma_cons (me_var 2) (ma_cons (me_lst (ma_cons me_int (ma_cons me_int (ma_cons (mc_call c__law_draw (hr.mono (by decide)) (by exact rfl) tkD (ma_cons (me_var 2) (ma_cons me_int ma_nil)) (len_cons (len_cons len_nil))) (ma_cons (mc_call c__law_draw (hr.mono (by decide)) (by exact rfl) tkD (ma_cons (me_var 2) (ma_cons me_int ma_nil)) (len_cons (len_cons len_nil))) ma_nil))))) ma_nil)) (len_cons (len_cons len_nil))))
    (ms_cons (ms_set (i := 8) sc_law.nd (by exact rfl) (by first | exact Or.inl (by exact rfl) | exact Or.inr rfl) (me_callB (CR_or (cr_min2 rfl) (cr_minL rfl)) (by exact rfl) (T.no_ "min" (by decide +kernel)) (by decide +kernel) (ma_cons (me_sub me_int (me_var 7)) (ma_cons (me_add me_int (mc_call c__law_draw (hr.mono (by decide)) (by exact rfl) tkD (ma_cons (me_var 2) (ma_cons (mc_call c__law_one (hr.mono (by decide)) (by exact rfl) tkD (ma_cons (me_var 2) (ma_cons (me_lst (ma_cons me_int (ma_cons me_int (ma_cons me_int ma_nil)))) ma_nil)) (len_cons (len_cons len_nil))) ma_nil)) (len_cons (len_cons len_nil)))) ma_nil))))
    (ms_one (ms_if (mt_cmp (ow_eq (hr).units) calm_eq (mc_call c__law_draw (hr.mono (by decide)) (by exact rfl) tkD (ma_cons (me_var 2) (ma_cons me_int ma_nil)) (len_cons (len_cons len_nil))) me_int)
    (ms_cons (ms_expr (mc_call c_unmap (hr.mono (by decide)) (by exact rfl) tkD (ma_cons (me_var 3) (ma_cons (me_var 4) (ma_cons (me_var 7) (ma_cons (me_var 8) ma_nil)))) (len_cons (len_cons (len_cons (len_cons len_nil))))))
    (ms_one (ms_for (vs := [9]) poD (by exact rfl) (mw_range2 (by exact rfl) (T.no_ "range" (by decide +kernel)) (ma_cons (me_var 7) (ma_cons (me_add (me_var 7) (me_var 8)) ma_nil))) (mg_name (i := 9) sc_law.nd (by exact rfl) (by first | exact Or.inl (by exact rfl) | exact Or.inr rfl) (by decide))
    (ms_one (ms_expr (me_bm PySem.F.plainAttrs_dict PySem.F.slot_dict_pop PySem.F.type_dict_pop ty_dict mr_dpop2 (me_var 5) (ma_cons (me_var 9) (ma_cons me_non ma_nil))))))))
    (ms_cons (ms_expr (mc_callK c_map_pages_kat (hr.mono (by decide)) (by exact rfl) tkD (ma_cons (me_var 3) (ma_cons (me_var 4) (ma_cons (me_var 8) ma_nil))) (len_cons (len_cons (len_cons len_nil))) (mk_cons (me_var 7) mk_nil) (len_cons len_nil)))
    (ms_one (ms_for (vs := [9]) poD (by exact rfl) (mw_range2 (by exact rfl) (T.no_ "range" (by decide +kernel)) (ma_cons (me_var 7) (ma_cons (me_add (me_var 7) (me_var 8)) ma_nil))) (mg_name (i := 9) sc_law.nd (by exact rfl) (by first | exact Or.inl (by exact rfl) | exact Or.inr rfl) (by decide))
    (ms_one (ms_setIx (hu_of hr) (me_var 5) (me_var 9) me_bl))))))))))
    (ms_cons (ms_if (mt_cmp (ow_ne (hr).units) calm_ne (mc_call c_widest (hr.mono (by decide)) (by exact rfl) tkD (ma_cons (me_var 3) (ma_cons (me_var 4) ma_nil)) (len_cons (len_cons len_nil))) (mc_call c__law_widest (hr.mono (by decide)) (by exact rfl) tkD (ma_cons (me_var 5) ma_nil) (len_cons len_nil)))
    (ms_one (ms_ret me_bl))
    ms_nil)
    (ms_cons (ms_for (vs := [8]) poD (by exact rfl) (mw_e (me_lst (ma_cons me_int (ma_cons me_int (ma_cons me_int (ma_cons (mc_call c__law_widest (hr.mono (by decide)) (by exact rfl) tkD (ma_cons (me_var 5) ma_nil) (len_cons len_nil)) (ma_cons (me_add (mc_call c__law_widest (hr.mono (by decide)) (by exact rfl) tkD (ma_cons (me_var 5) ma_nil) (len_cons len_nil)) me_int) (ma_cons (me_add me_int (mc_call c__law_draw (hr.mono (by decide)) (by exact rfl) tkD (ma_cons (me_var 2) (ma_cons me_int ma_nil)) (len_cons (len_cons len_nil)))) ma_nil)))))))) (mg_name (i := 8) sc_law.nd (by exact rfl) (by first | exact Or.inl (by exact rfl) | exact Or.inr rfl) (by decide))
    (ms_one (ms_if ((mw_and (mt_lele me_int (me_var 8) me_int) (mw_and1 (mt_cmp (ow_ne (hr).units) calm_ne (mc_call c_gap (hr.mono (by decide)) (by exact rfl) tkD (ma_cons (me_var 3) (ma_cons (me_var 4) (ma_cons (me_var 8) ma_nil))) (len_cons (len_cons (len_cons len_nil)))) (mc_call c__law_fits (hr.mono (by decide)) (by exact rfl) tkD (ma_cons (me_var 5) (ma_cons (me_var 8) ma_nil)) (len_cons (len_cons len_nil))))))).pt
    (ms_one (ms_ret me_bl))
    ms_nil)))
    (ms_cons (ms_if (mt_not (mt_of (mc_call c__law_refused (hr.mono (by decide)) (by exact rfl) tkD (ma_cons (me_var 2) (ma_cons (me_var 3) (ma_cons (me_var 4) ma_nil))) (len_cons (len_cons (len_cons len_nil))))))
    (ms_one (ms_ret me_bl))
    ms_nil)
    (ms_cons (ms_set (i := 8) sc_law.nd (by exact rfl) (by first | exact Or.inl (by exact rfl) | exact Or.inr rfl) (me_add me_int (mc_call c__law_draw (hr.mono (by decide)) (by exact rfl) tkD (ma_cons (me_var 2) (ma_cons (mc_call c__law_one (hr.mono (by decide)) (by exact rfl) tkD (ma_cons (me_var 2) (ma_cons (me_lst (ma_cons me_int (ma_cons me_int ma_nil))) ma_nil)) (len_cons (len_cons len_nil))) ma_nil)) (len_cons (len_cons len_nil)))))
    (ms_cons (ms_set (i := 10) sc_law.nd (by exact rfl) (by first | exact Or.inl (by exact rfl) | exact Or.inr rfl) (mc_call c__law_fits (hr.mono (by decide)) (by exact rfl) tkD (ma_cons (me_var 5) (ma_cons (me_var 8) ma_nil)) (len_cons (len_cons len_nil))))
    (ms_one (ms_if (mt_cmp (ow_ne (hr).units) calm_ne (mc_lam (k := 6) said__law_said (by exact rfl) (by rfl) sc__law_said (by rfl) (by first | exact Or.inl (by exact rfl) | exact Or.inr (Or.inl rfl) | exact Or.inr (Or.inr rfl) | exact Or.inr (by exact rfl) | decide) (subOf_ok T.subs) (hs := hs__law_said) (fun g cdv s H => hh__law_said T) (fun f => by rfl) TF (by rfl) (by rfl) (hr.mono (by decide)) (LamX.lamS_by (by show LamX.lamSB (defScope s_law) _ = true; decide +kernel)) (by rfl) (fun _ _ _ _ _ => by rfl) (fun A outer s H E f c' hr2 => by exact (mc_call c_map_pages_k0 (hr2.mono (by decide)) (by exact rfl) (takes_of (by exact rfl) (by exact rfl) (by exact rfl) rfl) (ma_cons (me_var 3) (ma_cons (me_var 4) (ma_cons (me_var 8) ma_nil))) (len_cons (len_cons (len_cons len_nil)))))) (me_ix (hu_of hr) (me_lst (ma_cons (me_var 10) (ma_cons (me_tup (ma_cons me_str (ma_cons me_str ma_nil))) ma_nil))) (me_callTy cr_int (by exact rfl) (T.no_ "int" (by decide +kernel)) (by decide +kernel) (ma_cons (me_isN (me_var 10) me_non) ma_nil))))
    (ms_one (ms_ret me_bl))
    ms_nil)))))))))))))
    (ms_one (ms_ret me_bl)))
end
end LW
set_option Elab.async false
set_option linter.all false
set_option maxRecDepth 100000
set_option maxHeartbeats 4000000
namespace LW
open PySem PySem.Spec L2 MP
abbrev s_NoSystem___init__ : Stmt := (inClass (top 3) 0)
theorem sc_NoSystem___init__ : FnScope ["self", "part"] ["self", "part"] (defScope s_NoSystem___init__) := ⟨rfl, rfl, rfl, by decide +kernel, rfl, by decide +kernel, by decide +kernel⟩
theorem x_NoSystem___init__ {P : Program} {w : World} {K : PySem.W.Frag} {mg : Str → Option Value} {base : Heap} {fI C C0 : Addr} {fd : FuncData} (F : Fun K "__init__" "NoSystem.__init__" s_NoSystem___init__ fI fd) (hm : mg "PageError" = some (.ref C0)) (pi : PIni K C0) (O : OexC K C) (hno : PySem.W.findIn K (.ref C) "part" = some none) :
    FnOk P w K mg base CX0 1 fI fd ["self", "part"] (spXi C "part") := by
  refine F.ok sc_NoSystem___init__ (fun vs H Q E h => ?_) (fun cdv A outer s H vs Q E hr h => ?_)
  · obtain ⟨a, v, rfl, _⟩ := h
    rfl
  · obtain ⟨a, v, rfl, ha, k⟩ := h
    refine ⟨_, pss_cons (ps_expr (pe_pinit (by exact rfl) hm pi (pa_cons (pv 0) (pa_cons pe_str pa_nil)))) (pss_one (ps_ost (pv 0) (pv 1))), ?_⟩
    exact ⟨_, rfl, a, C, _, rfl, by show 1 ≤ 1000; decide, O, ha, _, rfl, _, rfl, a, C, rfl, O, hno, .inl ⟨ha, k⟩⟩
abbrev s_NoProcess___init__ : Stmt := (inClass (top 4) 0)
theorem sc_NoProcess___init__ : FnScope ["self", "process"] ["self", "process"] (defScope s_NoProcess___init__) := ⟨rfl, rfl, rfl, by decide +kernel, rfl, by decide +kernel, by decide +kernel⟩
theorem x_NoProcess___init__ {P : Program} {w : World} {K : PySem.W.Frag} {mg : Str → Option Value} {base : Heap} {fI C C0 : Addr} {fd : FuncData} (F : Fun K "__init__" "NoProcess.__init__" s_NoProcess___init__ fI fd) (hm : mg "PageError" = some (.ref C0)) (pi : PIni K C0) (O : OexC K C) (hno : PySem.W.findIn K (.ref C) "process" = some none) :
    FnOk P w K mg base CX0 1 fI fd ["self", "process"] (spXi C "process") := by
  refine F.ok sc_NoProcess___init__ (fun vs H Q E h => ?_) (fun cdv A outer s H vs Q E hr h => ?_)
  · obtain ⟨a, v, rfl, _⟩ := h
    rfl
  · obtain ⟨a, v, rfl, ha, k⟩ := h
    refine ⟨_, pss_cons (ps_expr (pe_pinit (by exact rfl) hm pi (pa_cons (pv 0) (pa_cons pe_str pa_nil)))) (pss_one (ps_ost (pv 0) (pv 1))), ?_⟩
    exact ⟨_, rfl, a, C, _, rfl, by show 1 ≤ 1000; decide, O, ha, _, rfl, _, rfl, a, C, rfl, O, hno, .inl ⟨ha, k⟩⟩
abbrev s_NoPages___init__ : Stmt := (inClass (top 5) 0)
theorem sc_NoPages___init__ : FnScope ["self", "part"] ["self", "part"] (defScope s_NoPages___init__) := ⟨rfl, rfl, rfl, by decide +kernel, rfl, by decide +kernel, by decide +kernel⟩
theorem x_NoPages___init__ {P : Program} {w : World} {K : PySem.W.Frag} {mg : Str → Option Value} {base : Heap} {fI C C0 : Addr} {fd : FuncData} (F : Fun K "__init__" "NoPages.__init__" s_NoPages___init__ fI fd) (hm : mg "PageError" = some (.ref C0)) (pi : PIni K C0) (O : OexC K C) (hno : PySem.W.findIn K (.ref C) "part" = some none) :
    FnOk P w K mg base CX0 1 fI fd ["self", "part"] (spXi C "part") := by
  refine F.ok sc_NoPages___init__ (fun vs H Q E h => ?_) (fun cdv A outer s H vs Q E hr h => ?_)
  · obtain ⟨a, v, rfl, _⟩ := h
    rfl
  · obtain ⟨a, v, rfl, ha, k⟩ := h
    refine ⟨_, pss_cons (ps_expr (pe_pinit (by exact rfl) hm pi (pa_cons (pv 0) (pa_cons pe_str pa_nil)))) (pss_one (ps_ost (pv 0) (pv 1))), ?_⟩
    exact ⟨_, rfl, a, C, _, rfl, by show 1 ≤ 1000; decide, O, ha, _, rfl, _, rfl, a, C, rfl, O, hno, .inl ⟨ha, k⟩⟩
abbrev s_NoFile___init__ : Stmt := (inClass (top 6) 0)
theorem sc_NoFile___init__ : FnScope ["self", "name"] ["self", "name"] (defScope s_NoFile___init__) := ⟨rfl, rfl, rfl, by decide +kernel, rfl, by decide +kernel, by decide +kernel⟩
theorem x_NoFile___init__ {P : Program} {w : World} {K : PySem.W.Frag} {mg : Str → Option Value} {base : Heap} {fI C C0 : Addr} {fd : FuncData} (F : Fun K "__init__" "NoFile.__init__" s_NoFile___init__ fI fd) (hm : mg "PageError" = some (.ref C0)) (pi : PIni K C0) (O : OexC K C) (hno : PySem.W.findIn K (.ref C) "name" = some none) :
    FnOk P w K mg base CX0 1 fI fd ["self", "name"] (spXi C "name") := by
  refine F.ok sc_NoFile___init__ (fun vs H Q E h => ?_) (fun cdv A outer s H vs Q E hr h => ?_)
  · obtain ⟨a, v, rfl, _⟩ := h
    rfl
  · obtain ⟨a, v, rfl, ha, k⟩ := h
    refine ⟨_, pss_cons (ps_expr (pe_pinit (by exact rfl) hm pi (pa_cons (pv 0) (pa_cons pe_str pa_nil)))) (pss_one (ps_ost (pv 0) (pv 1))), ?_⟩
    exact ⟨_, rfl, a, C, _, rfl, by show 1 ≤ 1000; decide, O, ha, _, rfl, _, rfl, a, C, rfl, O, hno, .inl ⟨ha, k⟩⟩
theorem all_mk {l : PySem.W.OpenLaw} {w : World} {K : PySem.W.Frag} {h : Heap} {mg : Str → Option Value} {fa : Addr} {ts : List Addr} (hp : ∀ ns : List Int, ns.length ≤ 63 → (∀ z ∈ ns, Builtin.Int.intBits z ≤ 1048576) → ∃ s', p_law [.rls (ns.map .int)] ⟨#[]⟩ = .ok (.bl true) s') (X : K.In h) (hT : ∀ P ∈ ts, h.get? P = some (PySem.W.tabObj #[])) (G : h.Ns mainGlobals mg) (hfa : mg "law" = some (.ref fa))
        {A0 : Addr}
    {A1 : Addr}
    {A2 : Addr}
    {A3 : Addr}
    {A4 : Addr}
    {A5 : Addr}
    {A6 : Addr}
    {A7 : Addr}
    {A8 : Addr}
    {A9 : Addr}
    {nm1 q1 : Str} {M1 : Addr} {bs1 bm1 : List Value} {sn1 : List Str} {sub1 : List Value} {ab1 : Bool} {col1 : Option Bool} {dd1 : Option Addr} {m01 m11 m21 m31 m51 : Option Value}
    {nm2 q2 : Str} {M2 : Addr} {bs2 bm2 : List Value} {sn2 : List Str} {sub2 : List Value} {ab2 : Bool} {col2 : Option Bool} {dd2 : Option Addr} {m02 m12 m22 m32 m52 : Option Value}
    {nm3 q3 : Str} {M3 : Addr} {bs3 bm3 : List Value} {sn3 : List Str} {sub3 : List Value} {ab3 : Bool} {col3 : Option Bool} {dd3 : Option Addr} {m03 m13 m23 m33 m53 : Option Value}
    {nm4 q4 : Str} {M4 : Addr} {bs4 bm4 : List Value} {sn4 : List Str} {sub4 : List Value} {ab4 : Bool} {col4 : Option Bool} {dd4 : Option Addr} {m04 m14 m24 m34 m54 : Option Value}
    {f_NoSystem___init__ : Addr} {od_NoSystem___init__ an_NoSystem___init__ : Option Addr} {sl_NoSystem___init__ : Array (Option Value)} {oc_NoSystem___init__ dc_NoSystem___init__ pm_NoSystem___init__ ct_NoSystem___init__ : Value}
    {cd_NoSystem___init__ : Value}
    {kV_NoSystem___init__ : Value}
    {f_NoProcess___init__ : Addr} {od_NoProcess___init__ an_NoProcess___init__ : Option Addr} {sl_NoProcess___init__ : Array (Option Value)} {oc_NoProcess___init__ dc_NoProcess___init__ pm_NoProcess___init__ ct_NoProcess___init__ : Value}
    {cd_NoProcess___init__ : Value}
    {kV_NoProcess___init__ : Value}
    {f_NoPages___init__ : Addr} {od_NoPages___init__ an_NoPages___init__ : Option Addr} {sl_NoPages___init__ : Array (Option Value)} {oc_NoPages___init__ dc_NoPages___init__ pm_NoPages___init__ ct_NoPages___init__ : Value}
    {cd_NoPages___init__ : Value}
    {kV_NoPages___init__ : Value}
    {f_NoFile___init__ : Addr} {od_NoFile___init__ an_NoFile___init__ : Option Addr} {sl_NoFile___init__ : Array (Option Value)} {oc_NoFile___init__ dc_NoFile___init__ pm_NoFile___init__ ct_NoFile___init__ : Value}
    {cd_NoFile___init__ : Value}
    {kV_NoFile___init__ : Value}
    {f__law_said : Addr} {od__law_said an__law_said : Option Addr} {sl__law_said : Array (Option Value)} {oc__law_said dc__law_said pm__law_said ct__law_said : Value}
    {cd__law_said : Value}
    {kV__law_said : Value}
    {f_Memory___init__ : Addr} {od_Memory___init__ an_Memory___init__ : Option Addr} {sl_Memory___init__ : Array (Option Value)} {oc_Memory___init__ dc_Memory___init__ pm_Memory___init__ ct_Memory___init__ : Value}
    {cd_Memory___init__ : Value}
    {kV_Memory___init__ : Value}
    {f_Stack___init__ : Addr} {od_Stack___init__ an_Stack___init__ : Option Addr} {sl_Stack___init__ : Array (Option Value)} {oc_Stack___init__ dc_Stack___init__ pm_Stack___init__ ct_Stack___init__ : Value}
    {cd_Stack___init__ : Value}
    {kV_Stack___init__ : Value}
    {f_is_integer : Addr} {od_is_integer an_is_integer : Option Addr} {sl_is_integer : Array (Option Value)} {oc_is_integer dc_is_integer pm_is_integer ct_is_integer : Value}
    {cd_is_integer : Value}
    {kV_is_integer : Value}
    {f_is_between : Addr} {od_is_between an_is_between : Option Addr} {sl_is_between : Array (Option Value)} {oc_is_between dc_is_between pm_is_between ct_is_between : Value}
    {cd_is_between : Value}
    {kV_is_between : Value}
    {f_System___init__ : Addr} {od_System___init__ an_System___init__ : Option Addr} {sl_System___init__ : Array (Option Value)} {oc_System___init__ dc_System___init__ pm_System___init__ ct_System___init__ : Value}
    {cd_System___init__ : Value}
    {D_System___init__ : Addr}
    {f__law_draw : Addr} {od__law_draw an__law_draw : Option Addr} {sl__law_draw : Array (Option Value)} {oc__law_draw dc__law_draw pm__law_draw ct__law_draw : Value}
    {cd__law_draw : Value}
    {kV__law_draw : Value}
    {f__law_fits : Addr} {od__law_fits an__law_fits : Option Addr} {sl__law_fits : Array (Option Value)} {oc__law_fits dc__law_fits pm__law_fits ct__law_fits : Value}
    {cd__law_fits : Value}
    {kV__law_fits : Value}
    {f__law_one : Addr} {od__law_one an__law_one : Option Addr} {sl__law_one : Array (Option Value)} {oc__law_one dc__law_one pm__law_one ct__law_one : Value}
    {cd__law_one : Value}
    {kV__law_one : Value}
    {f_check_process : Addr} {od_check_process an_check_process : Option Addr} {sl_check_process : Array (Option Value)} {oc_check_process dc_check_process pm_check_process ct_check_process : Value}
    {cd_check_process : Value}
    {kV_check_process : Value}
    {f_gap_in : Addr} {od_gap_in an_gap_in : Option Addr} {sl_gap_in : Array (Option Value)} {oc_gap_in dc_gap_in pm_gap_in ct_gap_in : Value}
    {cd_gap_in : Value}
    {kV_gap_in : Value}
    {f_gap : Addr} {od_gap an_gap : Option Addr} {sl_gap : Array (Option Value)} {oc_gap dc_gap pm_gap ct_gap : Value}
    {cd_gap : Value}
    {kV_gap : Value}
    {f_Mapped___init__ : Addr} {od_Mapped___init__ an_Mapped___init__ : Option Addr} {sl_Mapped___init__ : Array (Option Value)} {oc_Mapped___init__ dc_Mapped___init__ pm_Mapped___init__ ct_Mapped___init__ : Value}
    {cd_Mapped___init__ : Value}
    {kV_Mapped___init__ : Value}
    {f_Stack_put : Addr} {od_Stack_put an_Stack_put : Option Addr} {sl_Stack_put : Array (Option Value)} {oc_Stack_put dc_Stack_put pm_Stack_put ct_Stack_put : Value}
    {cd_Stack_put : Value}
    {kV_Stack_put : Value}
    {f_Stack_relock : Addr} {od_Stack_relock an_Stack_relock : Option Addr} {sl_Stack_relock : Array (Option Value)} {oc_Stack_relock dc_Stack_relock pm_Stack_relock ct_Stack_relock : Value}
    {cd_Stack_relock : Value}
    {kV_Stack_relock : Value}
    {f_System_locked_items : Addr} {od_System_locked_items an_System_locked_items : Option Addr} {sl_System_locked_items : Array (Option Value)} {oc_System_locked_items dc_System_locked_items pm_System_locked_items ct_System_locked_items : Value}
    {cd_System_locked_items : Value}
    {kV_System_locked_items : Value}
    {f_System_locked_pages : Addr} {od_System_locked_pages an_System_locked_pages : Option Addr} {sl_System_locked_pages : Array (Option Value)} {oc_System_locked_pages dc_System_locked_pages pm_System_locked_pages ct_System_locked_pages : Value}
    {cd_System_locked_pages : Value}
    {kV_System_locked_pages : Value}
    {f_System_settle : Addr} {od_System_settle an_System_settle : Option Addr} {sl_System_settle : Array (Option Value)} {oc_System_settle dc_System_settle pm_System_settle ct_System_settle : Value}
    {cd_System_settle : Value}
    {kV_System_settle : Value}
    {f_sorted_pages : Addr} {od_sorted_pages an_sorted_pages : Option Addr} {sl_sorted_pages : Array (Option Value)} {oc_sorted_pages dc_sorted_pages pm_sorted_pages ct_sorted_pages : Value}
    {cd_sorted_pages : Value}
    {kV_sorted_pages : Value}
    {f_places : Addr} {od_places an_places : Option Addr} {sl_places : Array (Option Value)} {oc_places dc_places pm_places ct_places : Value}
    {cd_places : Value}
    {kV_places : Value}
    {f_tidy : Addr} {od_tidy an_tidy : Option Addr} {sl_tidy : Array (Option Value)} {oc_tidy dc_tidy pm_tidy ct_tidy : Value}
    {cd_tidy : Value}
    {kV_tidy : Value}
    {f_System_done : Addr} {od_System_done an_System_done : Option Addr} {sl_System_done : Array (Option Value)} {oc_System_done dc_System_done pm_System_done ct_System_done : Value}
    {cd_System_done : Value}
    {kV_System_done : Value}
    {f_check_charge : Addr} {od_check_charge an_check_charge : Option Addr} {sl_check_charge : Array (Option Value)} {oc_check_charge dc_check_charge pm_check_charge ct_check_charge : Value}
    {cd_check_charge : Value}
    {kV_check_charge : Value}
    {T_check_charge : Addr} {ot_check_charge : Value} {odt_check_charge : Option Addr} {nt_check_charge : Nat} {slt_check_charge : Array (Option Value)}
    {f_check_rights : Addr} {od_check_rights an_check_rights : Option Addr} {sl_check_rights : Array (Option Value)} {oc_check_rights dc_check_rights pm_check_rights ct_check_rights : Value}
    {cd_check_rights : Value}
    {kV_check_rights : Value}
    {f_is_name : Addr} {od_is_name an_is_name : Option Addr} {sl_is_name : Array (Option Value)} {oc_is_name dc_is_name pm_is_name ct_is_name : Value}
    {cd_is_name : Value}
    {kV_is_name : Value}
    {f_check_source : Addr} {od_check_source an_check_source : Option Addr} {sl_check_source : Array (Option Value)} {oc_check_source dc_check_source pm_check_source ct_check_source : Value}
    {cd_check_source : Value}
    {kV_check_source : Value}
    {f_place_for : Addr} {od_place_for an_place_for : Option Addr} {sl_place_for : Array (Option Value)} {oc_place_for dc_place_for pm_place_for ct_place_for : Value}
    {cd_place_for : Value}
    {kV_place_for : Value}
    {f_let_go : Addr} {od_let_go an_let_go : Option Addr} {sl_let_go : Array (Option Value)} {oc_let_go dc_let_go pm_let_go ct_let_go : Value}
    {cd_let_go : Value}
    {kV_let_go : Value}
    {f_remove : Addr} {od_remove an_remove : Option Addr} {sl_remove : Array (Option Value)} {oc_remove dc_remove pm_remove ct_remove : Value}
    {cd_remove : Value}
    {kV_remove : Value}
    {f_map_pages : Addr} {od_map_pages an_map_pages : Option Addr} {sl_map_pages : Array (Option Value)} {oc_map_pages dc_map_pages pm_map_pages ct_map_pages : Value}
    {cd_map_pages : Value}
    {D_map_pages : Addr}
    {f_Mapped_attributes : Addr} {od_Mapped_attributes an_Mapped_attributes : Option Addr} {sl_Mapped_attributes : Array (Option Value)} {oc_Mapped_attributes dc_Mapped_attributes pm_Mapped_attributes ct_Mapped_attributes : Value}
    {cd_Mapped_attributes : Value}
    {kV_Mapped_attributes : Value}
    {f_follows : Addr} {od_follows an_follows : Option Addr} {sl_follows : Array (Option Value)} {oc_follows dc_follows pm_follows ct_follows : Value}
    {cd_follows : Value}
    {kV_follows : Value}
    {f_regions : Addr} {od_regions an_regions : Option Addr} {sl_regions : Array (Option Value)} {oc_regions dc_regions pm_regions ct_regions : Value}
    {cd_regions : Value}
    {kV_regions : Value}
    {f_widest : Addr} {od_widest an_widest : Option Addr} {sl_widest : Array (Option Value)} {oc_widest dc_widest pm_widest ct_widest : Value}
    {cd_widest : Value}
    {kV_widest : Value}
    {f__law_refused : Addr} {od__law_refused an__law_refused : Option Addr} {sl__law_refused : Array (Option Value)} {oc__law_refused dc__law_refused pm__law_refused ct__law_refused : Value}
    {c__law_refused P__law_refused : Addr} {us__law_refused : Array Value} {occ__law_refused : Value} {odc__law_refused : Option Addr} {slc__law_refused : Array (Option Value)}
    {kV__law_refused : Value}
    {f__law_well : Addr} {od__law_well an__law_well : Option Addr} {sl__law_well : Array (Option Value)} {oc__law_well dc__law_well pm__law_well ct__law_well : Value}
    {cd__law_well : Value}
    {kV__law_well : Value}
    {f__law_widest : Addr} {od__law_widest an__law_widest : Option Addr} {sl__law_widest : Array (Option Value)} {oc__law_widest dc__law_widest pm__law_widest ct__law_widest : Value}
    {cd__law_widest : Value}
    {kV__law_widest : Value}
    {f_new_process : Addr} {od_new_process an_new_process : Option Addr} {sl_new_process : Array (Option Value)} {oc_new_process dc_new_process pm_new_process ct_new_process : Value}
    {cd_new_process : Value}
    {kV_new_process : Value}
    {f_spawn : Addr} {od_spawn an_spawn : Option Addr} {sl_spawn : Array (Option Value)} {oc_spawn dc_spawn pm_spawn ct_spawn : Value}
    {cd_spawn : Value}
    {kV_spawn : Value}
    {f_check_range : Addr} {od_check_range an_check_range : Option Addr} {sl_check_range : Array (Option Value)} {oc_check_range dc_check_range pm_check_range ct_check_range : Value}
    {cd_check_range : Value}
    {kV_check_range : Value}
    {f_unmap : Addr} {od_unmap an_unmap : Option Addr} {sl_unmap : Array (Option Value)} {oc_unmap dc_unmap pm_unmap ct_unmap : Value}
    {cd_unmap : Value}
    {kV_unmap : Value}
    {f_law : Addr} {od_law an_law : Option Addr} {sl_law : Array (Option Value)} {oc_law dc_law pm_law ct_law : Value}
    {c_law P_law : Addr} {us_law : Array Value} {occ_law : Value} {odc_law : Option Addr} {slc_law : Array (Option Value)}
    {kV_law : Value}
    {t_RLETTERS : Tok}
    {t_RPAGES : Tok}
    {R_RIGHTS : Addr} {od_RRIGHTS : Option Addr} {nt_RRIGHTS : Nat} {sl_RRIGHTS : Array (Option Value)}
    {tk_0 : Tok} {tk_1 : Tok} {tk_2 : Tok} {tk_3 : Tok} {tk_4 : Tok}
        (aC0 : PySem.W.nsIn K mainGlobals "PageError" = some (some (.ref A0)))
    (kc0 : PySem.W.keepIn K (.ref A0) = true)
    (ga0 : PySem.W.findIn K (.ref A0) "__getattribute__" = some (some (.builtin "BaseException.__getattribute__")))
    (gg0 : PySem.W.findIn K (.ref A0) "__getattr__" = some none)
    (eb0 : PySem.W.subIn K (.ref A0) (.type "BaseException") = some true)
    (hd0 : PySem.W.hasDictIn K A0 = true)
    (ic0 : PySem.W.isClsIn K A0 = true)
    (tc0 : PySem.W.typeIn K (.ref A0) = some (.type "type"))
    (aC1 : PySem.W.nsIn K mainGlobals "NoSystem" = some (some (.ref A1)))
    (kc1 : PySem.W.keepIn K (.ref A1) = true)
    (ga1 : PySem.W.findIn K (.ref A1) "__getattribute__" = some (some (.builtin "BaseException.__getattribute__")))
    (gg1 : PySem.W.findIn K (.ref A1) "__getattr__" = some none)
    (eb1 : PySem.W.subIn K (.ref A1) (.type "BaseException") = some true)
    (hd1 : PySem.W.hasDictIn K A1 = true)
    (ic1 : PySem.W.isClsIn K A1 = true)
    (tc1 : PySem.W.typeIn K (.ref A1) = some (.type "type"))
    (aC2 : PySem.W.nsIn K mainGlobals "NoProcess" = some (some (.ref A2)))
    (kc2 : PySem.W.keepIn K (.ref A2) = true)
    (ga2 : PySem.W.findIn K (.ref A2) "__getattribute__" = some (some (.builtin "BaseException.__getattribute__")))
    (gg2 : PySem.W.findIn K (.ref A2) "__getattr__" = some none)
    (eb2 : PySem.W.subIn K (.ref A2) (.type "BaseException") = some true)
    (hd2 : PySem.W.hasDictIn K A2 = true)
    (ic2 : PySem.W.isClsIn K A2 = true)
    (tc2 : PySem.W.typeIn K (.ref A2) = some (.type "type"))
    (aC3 : PySem.W.nsIn K mainGlobals "NoPages" = some (some (.ref A3)))
    (kc3 : PySem.W.keepIn K (.ref A3) = true)
    (ga3 : PySem.W.findIn K (.ref A3) "__getattribute__" = some (some (.builtin "BaseException.__getattribute__")))
    (gg3 : PySem.W.findIn K (.ref A3) "__getattr__" = some none)
    (eb3 : PySem.W.subIn K (.ref A3) (.type "BaseException") = some true)
    (hd3 : PySem.W.hasDictIn K A3 = true)
    (ic3 : PySem.W.isClsIn K A3 = true)
    (tc3 : PySem.W.typeIn K (.ref A3) = some (.type "type"))
    (aC4 : PySem.W.nsIn K mainGlobals "NoFile" = some (some (.ref A4)))
    (kc4 : PySem.W.keepIn K (.ref A4) = true)
    (ga4 : PySem.W.findIn K (.ref A4) "__getattribute__" = some (some (.builtin "BaseException.__getattribute__")))
    (gg4 : PySem.W.findIn K (.ref A4) "__getattr__" = some none)
    (eb4 : PySem.W.subIn K (.ref A4) (.type "BaseException") = some true)
    (hd4 : PySem.W.hasDictIn K A4 = true)
    (ic4 : PySem.W.isClsIn K A4 = true)
    (tc4 : PySem.W.typeIn K (.ref A4) = some (.type "type"))
    (aC5 : PySem.W.nsIn K mainGlobals "NoCharge" = some (some (.ref A5)))
    (kc5 : PySem.W.keepIn K (.ref A5) = true)
    (ga5 : PySem.W.findIn K (.ref A5) "__getattribute__" = some (some (.builtin "BaseException.__getattribute__")))
    (gg5 : PySem.W.findIn K (.ref A5) "__getattr__" = some none)
    (eb5 : PySem.W.subIn K (.ref A5) (.type "BaseException") = some true)
    (hd5 : PySem.W.hasDictIn K A5 = true)
    (ic5 : PySem.W.isClsIn K A5 = true)
    (tc5 : PySem.W.typeIn K (.ref A5) = some (.type "type"))
    (aC6 : PySem.W.nsIn K mainGlobals "Mapped" = some (some (.ref A6)))
    (kc6 : PySem.W.keepIn K (.ref A6) = true)
    (pg6 : PySem.W.plainGet K A6 Str.empty = true)
    (hd6 : PySem.W.hasDictIn K A6 = true)
    (po6 : PySem.W.plainOver K A6 = true)
    (sa6 : PySem.W.findIn K (.ref A6) "__setattr__" = some (some (.builtin "object.__setattr__")))
    (mk6 : PySem.W.makesIn K A6 = true)
    (n6_0 : PySem.W.findIn K (.ref A6) "rights" = some none)
    (n6_1 : PySem.W.findIn K (.ref A6) "shared" = some none)
    (n6_2 : PySem.W.findIn K (.ref A6) "source" = some none)
    (n6_3 : PySem.W.findIn K (.ref A6) "index" = some none)
    (n6_4 : PySem.W.findIn K (.ref A6) "flags" = some none)
    (n6_5 : PySem.W.findIn K (.ref A6) "held" = some none)
    (n6_6 : PySem.W.findIn K (.ref A6) "stamp" = some none)
    (aC7 : PySem.W.nsIn K mainGlobals "Memory" = some (some (.ref A7)))
    (kc7 : PySem.W.keepIn K (.ref A7) = true)
    (pg7 : PySem.W.plainGet K A7 Str.empty = true)
    (hd7 : PySem.W.hasDictIn K A7 = true)
    (po7 : PySem.W.plainOver K A7 = true)
    (sa7 : PySem.W.findIn K (.ref A7) "__setattr__" = some (some (.builtin "object.__setattr__")))
    (mk7 : PySem.W.makesIn K A7 = true)
    (n7_0 : PySem.W.findIn K (.ref A7) "system" = some none)
    (n7_1 : PySem.W.findIn K (.ref A7) "inside" = some none)
    (n7_2 : PySem.W.findIn K (.ref A7) "outside" = some none)
    (n7_3 : PySem.W.findIn K (.ref A7) "dirty" = some none)
    (n7_4 : PySem.W.findIn K (.ref A7) "faults" = some none)
    (n7_5 : PySem.W.findIn K (.ref A7) "swap_outs" = some none)
    (n7_6 : PySem.W.findIn K (.ref A7) "write_backs" = some none)
    (aC8 : PySem.W.nsIn K mainGlobals "Stack" = some (some (.ref A8)))
    (kc8 : PySem.W.keepIn K (.ref A8) = true)
    (pg8 : PySem.W.plainGet K A8 Str.empty = true)
    (hd8 : PySem.W.hasDictIn K A8 = true)
    (po8 : PySem.W.plainOver K A8 = true)
    (sa8 : PySem.W.findIn K (.ref A8) "__setattr__" = some (some (.builtin "object.__setattr__")))
    (mk8 : PySem.W.makesIn K A8 = true)
    (n8_0 : PySem.W.findIn K (.ref A8) "row" = some none)
    (n8_1 : PySem.W.findIn K (.ref A8) "index" = some none)
    (n8_2 : PySem.W.findIn K (.ref A8) "locked" = some none)
    (n8_3 : PySem.W.findIn K (.ref A8) "has_crashed" = some none)
    (n8_4 : PySem.W.findIn K (.ref A8) "has_merged" = some none)
    (n8_5 : PySem.W.findIn K (.ref A8) "distances" = some none)
    (n8_6 : PySem.W.findIn K (.ref A8) "touched" = some none)
    (n8_7 : PySem.W.findIn K (.ref A8) "touches" = some none)
    (n8_8 : PySem.W.findIn K (.ref A8) "since" = some none)
    (n8_9 : PySem.W.findIn K (.ref A8) "outs" = some none)
    (n8_10 : PySem.W.findIn K (.ref A8) "backs" = some none)
    (n8_11 : PySem.W.findIn K (.ref A8) "backs_from" = some none)
    (n8_12 : PySem.W.findIn K (.ref A8) "slots" = some none)
    (n8_13 : PySem.W.findIn K (.ref A8) "dirty" = some none)
    (n8_14 : PySem.W.findIn K (.ref A8) "disks" = some none)
    (aC9 : PySem.W.nsIn K mainGlobals "System" = some (some (.ref A9)))
    (kc9 : PySem.W.keepIn K (.ref A9) = true)
    (pg9 : PySem.W.plainGet K A9 Str.empty = true)
    (hd9 : PySem.W.hasDictIn K A9 = true)
    (po9 : PySem.W.plainOver K A9 = true)
    (sa9 : PySem.W.findIn K (.ref A9) "__setattr__" = some (some (.builtin "object.__setattr__")))
    (mk9 : PySem.W.makesIn K A9 = true)
    (n9_0 : PySem.W.findIn K (.ref A9) "frames" = some none)
    (n9_1 : PySem.W.findIn K (.ref A9) "slots" = some none)
    (n9_2 : PySem.W.findIn K (.ref A9) "strict" = some none)
    (n9_3 : PySem.W.findIn K (.ref A9) "spaces" = some none)
    (n9_4 : PySem.W.findIn K (.ref A9) "objects" = some none)
    (n9_5 : PySem.W.findIn K (.ref A9) "catalogue" = some none)
    (n9_6 : PySem.W.findIn K (.ref A9) "disks" = some none)
    (n9_7 : PySem.W.findIn K (.ref A9) "step" = some none)
    (n9_8 : PySem.W.findIn K (.ref A9) "last_process" = some none)
    (n9_9 : PySem.W.findIn K (.ref A9) "last_object" = some none)
    (n9_10 : PySem.W.findIn K (.ref A9) "last_item" = some none)
    (n9_11 : PySem.W.findIn K (.ref A9) "most_locked" = some none)
    (n9_12 : PySem.W.findIn K (.ref A9) "stack" = some none)
    (n9_13 : PySem.W.findIn K (.ref A9) "memory" = some none)
    (ss0_0 : PySem.W.subIn K (.ref A0) (.ref A0) = some true)
    (ss0_1 : PySem.W.subIn K (.ref A0) (.ref A1) = some false)
    (ss0_2 : PySem.W.subIn K (.ref A0) (.ref A2) = some false)
    (ss0_3 : PySem.W.subIn K (.ref A0) (.ref A3) = some false)
    (ss0_4 : PySem.W.subIn K (.ref A0) (.ref A4) = some false)
    (ss0_5 : PySem.W.subIn K (.ref A0) (.ref A5) = some false)
    (ss1_0 : PySem.W.subIn K (.ref A1) (.ref A0) = some true)
    (ss1_1 : PySem.W.subIn K (.ref A1) (.ref A1) = some true)
    (ss1_2 : PySem.W.subIn K (.ref A1) (.ref A2) = some false)
    (ss1_3 : PySem.W.subIn K (.ref A1) (.ref A3) = some false)
    (ss1_4 : PySem.W.subIn K (.ref A1) (.ref A4) = some false)
    (ss1_5 : PySem.W.subIn K (.ref A1) (.ref A5) = some false)
    (ss2_0 : PySem.W.subIn K (.ref A2) (.ref A0) = some true)
    (ss2_1 : PySem.W.subIn K (.ref A2) (.ref A1) = some false)
    (ss2_2 : PySem.W.subIn K (.ref A2) (.ref A2) = some true)
    (ss2_3 : PySem.W.subIn K (.ref A2) (.ref A3) = some false)
    (ss2_4 : PySem.W.subIn K (.ref A2) (.ref A4) = some false)
    (ss2_5 : PySem.W.subIn K (.ref A2) (.ref A5) = some false)
    (ss3_0 : PySem.W.subIn K (.ref A3) (.ref A0) = some true)
    (ss3_1 : PySem.W.subIn K (.ref A3) (.ref A1) = some false)
    (ss3_2 : PySem.W.subIn K (.ref A3) (.ref A2) = some false)
    (ss3_3 : PySem.W.subIn K (.ref A3) (.ref A3) = some true)
    (ss3_4 : PySem.W.subIn K (.ref A3) (.ref A4) = some false)
    (ss3_5 : PySem.W.subIn K (.ref A3) (.ref A5) = some false)
    (ss4_0 : PySem.W.subIn K (.ref A4) (.ref A0) = some true)
    (ss4_1 : PySem.W.subIn K (.ref A4) (.ref A1) = some false)
    (ss4_2 : PySem.W.subIn K (.ref A4) (.ref A2) = some false)
    (ss4_3 : PySem.W.subIn K (.ref A4) (.ref A3) = some false)
    (ss4_4 : PySem.W.subIn K (.ref A4) (.ref A4) = some true)
    (ss4_5 : PySem.W.subIn K (.ref A4) (.ref A5) = some false)
    (ss5_0 : PySem.W.subIn K (.ref A5) (.ref A0) = some true)
    (ss5_1 : PySem.W.subIn K (.ref A5) (.ref A1) = some false)
    (ss5_2 : PySem.W.subIn K (.ref A5) (.ref A2) = some false)
    (ss5_3 : PySem.W.subIn K (.ref A5) (.ref A3) = some false)
    (ss5_4 : PySem.W.subIn K (.ref A5) (.ref A4) = some false)
    (ss5_5 : PySem.W.subIn K (.ref A5) (.ref A5) = some true)
    (xn1 : PySem.W.findIn K (.ref A1) "part" = some none)
    (xl1 : K.lookup A1 = some (excClassObj nm1 q1 A1 M1 bs1 bm1 true sn1 sub1 ab1 col1 dd1 m01 m11 m21 m31 m51 "ValueError.__new__"))
    (xb1 : PySem.HandSPX.refsVE bm1 = true)
    (sa1 : PySem.W.findIn K (.ref A1) "__setattr__" = some (some (.builtin "object.__setattr__")))
    (xn2 : PySem.W.findIn K (.ref A2) "process" = some none)
    (xl2 : K.lookup A2 = some (excClassObj nm2 q2 A2 M2 bs2 bm2 true sn2 sub2 ab2 col2 dd2 m02 m12 m22 m32 m52 "ValueError.__new__"))
    (xb2 : PySem.HandSPX.refsVE bm2 = true)
    (sa2 : PySem.W.findIn K (.ref A2) "__setattr__" = some (some (.builtin "object.__setattr__")))
    (xn3 : PySem.W.findIn K (.ref A3) "part" = some none)
    (xl3 : K.lookup A3 = some (excClassObj nm3 q3 A3 M3 bs3 bm3 true sn3 sub3 ab3 col3 dd3 m03 m13 m23 m33 m53 "ValueError.__new__"))
    (xb3 : PySem.HandSPX.refsVE bm3 = true)
    (sa3 : PySem.W.findIn K (.ref A3) "__setattr__" = some (some (.builtin "object.__setattr__")))
    (xn4 : PySem.W.findIn K (.ref A4) "name" = some none)
    (xl4 : K.lookup A4 = some (excClassObj nm4 q4 A4 M4 bs4 bm4 true sn4 sub4 ab4 col4 dd4 m04 m14 m24 m34 m54 "ValueError.__new__"))
    (xb4 : PySem.HandSPX.refsVE bm4 = true)
    (sa4 : PySem.W.findIn K (.ref A4) "__setattr__" = some (some (.builtin "object.__setattr__")))
    (bg0 : PySem.W.specialIn K (.ref A0) "__getattribute__" = some (some (.builtin "type.__getattribute__")))
    (br0 : PySem.W.readsIn K A0 (.type "type") = true)
    (be0 : PySem.W.findCls K (.ref A0) (.type "type") "__init__" = some (.val (.builtin "ValueError.__init__")))
    (a_NoSystem___init__ : PySem.W.findIn K (.ref A1) "__init__" = some (some (.ref f_NoSystem___init__)))
    (i_NoSystem___init__ : PySem.W.isFn K (.ref f_NoSystem___init__) = true)
    (t_NoSystem___init__ : PySem.W.typeIn K (.ref f_NoSystem___init__) = some (.type "function"))
    (l_NoSystem___init__ : K.lookup f_NoSystem___init__ = some ⟨oc_NoSystem___init__, od_NoSystem___init__, .func (PySem.W.fnOf "__init__" "NoSystem.__init__" (defArgs s_NoSystem___init__) (defBody s_NoSystem___init__) (defScope s_NoSystem___init__) .none kV_NoSystem___init__ dc_NoSystem___init__ pm_NoSystem___init__ an_NoSystem___init__ cd_NoSystem___init__ ct_NoSystem___init__), sl_NoSystem___init__⟩)
    (c_NoSystem___init___ : PySem.W.codeIn K cd_NoSystem___init__ "NoSystem.__init__" = true)
    (k_NoSystem___init__ : PySem.W.keepIn K (.ref f_NoSystem___init__) = true)
    (a_NoProcess___init__ : PySem.W.findIn K (.ref A2) "__init__" = some (some (.ref f_NoProcess___init__)))
    (i_NoProcess___init__ : PySem.W.isFn K (.ref f_NoProcess___init__) = true)
    (t_NoProcess___init__ : PySem.W.typeIn K (.ref f_NoProcess___init__) = some (.type "function"))
    (l_NoProcess___init__ : K.lookup f_NoProcess___init__ = some ⟨oc_NoProcess___init__, od_NoProcess___init__, .func (PySem.W.fnOf "__init__" "NoProcess.__init__" (defArgs s_NoProcess___init__) (defBody s_NoProcess___init__) (defScope s_NoProcess___init__) .none kV_NoProcess___init__ dc_NoProcess___init__ pm_NoProcess___init__ an_NoProcess___init__ cd_NoProcess___init__ ct_NoProcess___init__), sl_NoProcess___init__⟩)
    (c_NoProcess___init___ : PySem.W.codeIn K cd_NoProcess___init__ "NoProcess.__init__" = true)
    (k_NoProcess___init__ : PySem.W.keepIn K (.ref f_NoProcess___init__) = true)
    (a_NoPages___init__ : PySem.W.findIn K (.ref A3) "__init__" = some (some (.ref f_NoPages___init__)))
    (i_NoPages___init__ : PySem.W.isFn K (.ref f_NoPages___init__) = true)
    (t_NoPages___init__ : PySem.W.typeIn K (.ref f_NoPages___init__) = some (.type "function"))
    (l_NoPages___init__ : K.lookup f_NoPages___init__ = some ⟨oc_NoPages___init__, od_NoPages___init__, .func (PySem.W.fnOf "__init__" "NoPages.__init__" (defArgs s_NoPages___init__) (defBody s_NoPages___init__) (defScope s_NoPages___init__) .none kV_NoPages___init__ dc_NoPages___init__ pm_NoPages___init__ an_NoPages___init__ cd_NoPages___init__ ct_NoPages___init__), sl_NoPages___init__⟩)
    (c_NoPages___init___ : PySem.W.codeIn K cd_NoPages___init__ "NoPages.__init__" = true)
    (k_NoPages___init__ : PySem.W.keepIn K (.ref f_NoPages___init__) = true)
    (a_NoFile___init__ : PySem.W.findIn K (.ref A4) "__init__" = some (some (.ref f_NoFile___init__)))
    (i_NoFile___init__ : PySem.W.isFn K (.ref f_NoFile___init__) = true)
    (t_NoFile___init__ : PySem.W.typeIn K (.ref f_NoFile___init__) = some (.type "function"))
    (l_NoFile___init__ : K.lookup f_NoFile___init__ = some ⟨oc_NoFile___init__, od_NoFile___init__, .func (PySem.W.fnOf "__init__" "NoFile.__init__" (defArgs s_NoFile___init__) (defBody s_NoFile___init__) (defScope s_NoFile___init__) .none kV_NoFile___init__ dc_NoFile___init__ pm_NoFile___init__ an_NoFile___init__ cd_NoFile___init__ ct_NoFile___init__), sl_NoFile___init__⟩)
    (c_NoFile___init___ : PySem.W.codeIn K cd_NoFile___init__ "NoFile.__init__" = true)
    (k_NoFile___init__ : PySem.W.keepIn K (.ref f_NoFile___init__) = true)
    (a__law_said : PySem.W.nsIn K mainGlobals "_law_said" = some (some (.ref f__law_said)))
    (l__law_said : K.lookup f__law_said = some ⟨oc__law_said, od__law_said, .func (PySem.W.fnOf "_law_said" "_law_said" (defArgs s__law_said) (defBody s__law_said) (defScope s__law_said) .none kV__law_said dc__law_said pm__law_said an__law_said cd__law_said ct__law_said), sl__law_said⟩)
    (c__law_said_ : PySem.W.codeIn K cd__law_said "_law_said" = true)
    (k__law_said : PySem.W.keepIn K (.ref f__law_said) = true)
    (a_Memory___init__ : PySem.W.findIn K (.ref A7) "__init__" = some (some (.ref f_Memory___init__)))
    (i_Memory___init__ : PySem.W.isFn K (.ref f_Memory___init__) = true)
    (l_Memory___init__ : K.lookup f_Memory___init__ = some ⟨oc_Memory___init__, od_Memory___init__, .func (PySem.W.fnOf "__init__" "Memory.__init__" (defArgs s_Memory___init__) (defBody s_Memory___init__) (defScope s_Memory___init__) .none kV_Memory___init__ dc_Memory___init__ pm_Memory___init__ an_Memory___init__ cd_Memory___init__ ct_Memory___init__), sl_Memory___init__⟩)
    (c_Memory___init___ : PySem.W.codeIn K cd_Memory___init__ "Memory.__init__" = true)
    (k_Memory___init__ : PySem.W.keepIn K (.ref f_Memory___init__) = true)
    (a_Stack___init__ : PySem.W.findIn K (.ref A8) "__init__" = some (some (.ref f_Stack___init__)))
    (i_Stack___init__ : PySem.W.isFn K (.ref f_Stack___init__) = true)
    (l_Stack___init__ : K.lookup f_Stack___init__ = some ⟨oc_Stack___init__, od_Stack___init__, .func (PySem.W.fnOf "__init__" "Stack.__init__" (defArgs s_Stack___init__) (defBody s_Stack___init__) (defScope s_Stack___init__) .none kV_Stack___init__ dc_Stack___init__ pm_Stack___init__ an_Stack___init__ cd_Stack___init__ ct_Stack___init__), sl_Stack___init__⟩)
    (c_Stack___init___ : PySem.W.codeIn K cd_Stack___init__ "Stack.__init__" = true)
    (k_Stack___init__ : PySem.W.keepIn K (.ref f_Stack___init__) = true)
    (a_is_integer : PySem.W.nsIn K mainGlobals "is_integer" = some (some (.ref f_is_integer)))
    (l_is_integer : K.lookup f_is_integer = some ⟨oc_is_integer, od_is_integer, .func (PySem.W.fnOf "is_integer" "is_integer" (defArgs s_is_integer) (defBody s_is_integer) (defScope s_is_integer) .none kV_is_integer dc_is_integer pm_is_integer an_is_integer cd_is_integer ct_is_integer), sl_is_integer⟩)
    (c_is_integer_ : PySem.W.codeIn K cd_is_integer "is_integer" = true)
    (k_is_integer : PySem.W.keepIn K (.ref f_is_integer) = true)
    (a_is_between : PySem.W.nsIn K mainGlobals "is_between" = some (some (.ref f_is_between)))
    (l_is_between : K.lookup f_is_between = some ⟨oc_is_between, od_is_between, .func (PySem.W.fnOf "is_between" "is_between" (defArgs s_is_between) (defBody s_is_between) (defScope s_is_between) .none kV_is_between dc_is_between pm_is_between an_is_between cd_is_between ct_is_between), sl_is_between⟩)
    (c_is_between_ : PySem.W.codeIn K cd_is_between "is_between" = true)
    (k_is_between : PySem.W.keepIn K (.ref f_is_between) = true)
    (a_System___init__ : PySem.W.findIn K (.ref A9) "__init__" = some (some (.ref f_System___init__)))
    (i_System___init__ : PySem.W.isFn K (.ref f_System___init__) = true)
    (l_System___init__ : K.lookup f_System___init__ = some ⟨oc_System___init__, od_System___init__, .func (PySem.W.fnOf "__init__" "System.__init__" (defArgs s_System___init__) (defBody s_System___init__) (defScope s_System___init__) .none (.ref D_System___init__) dc_System___init__ pm_System___init__ an_System___init__ cd_System___init__ ct_System___init__), sl_System___init__⟩)
    (c_System___init___ : PySem.W.codeIn K cd_System___init__ "System.__init__" = true)
    (k_System___init__ : PySem.W.keepIn K (.ref f_System___init__) = true)
    (w_System___init___frames : PySem.W.nsIn K D_System___init__ "frames" = some (some (.none)))
    (w_System___init___slots : PySem.W.nsIn K D_System___init__ "slots" = some (some (.none)))
    (w_System___init___strict : PySem.W.nsIn K D_System___init__ "strict" = some (some (.bool false)))
    (a__law_draw : PySem.W.nsIn K mainGlobals "_law_draw" = some (some (.ref f__law_draw)))
    (l__law_draw : K.lookup f__law_draw = some ⟨oc__law_draw, od__law_draw, .func (PySem.W.fnOf "_law_draw" "_law_draw" (defArgs s__law_draw) (defBody s__law_draw) (defScope s__law_draw) .none kV__law_draw dc__law_draw pm__law_draw an__law_draw cd__law_draw ct__law_draw), sl__law_draw⟩)
    (c__law_draw_ : PySem.W.codeIn K cd__law_draw "_law_draw" = true)
    (k__law_draw : PySem.W.keepIn K (.ref f__law_draw) = true)
    (a__law_fits : PySem.W.nsIn K mainGlobals "_law_fits" = some (some (.ref f__law_fits)))
    (l__law_fits : K.lookup f__law_fits = some ⟨oc__law_fits, od__law_fits, .func (PySem.W.fnOf "_law_fits" "_law_fits" (defArgs s__law_fits) (defBody s__law_fits) (defScope s__law_fits) .none kV__law_fits dc__law_fits pm__law_fits an__law_fits cd__law_fits ct__law_fits), sl__law_fits⟩)
    (c__law_fits_ : PySem.W.codeIn K cd__law_fits "_law_fits" = true)
    (k__law_fits : PySem.W.keepIn K (.ref f__law_fits) = true)
    (a__law_one : PySem.W.nsIn K mainGlobals "_law_one" = some (some (.ref f__law_one)))
    (l__law_one : K.lookup f__law_one = some ⟨oc__law_one, od__law_one, .func (PySem.W.fnOf "_law_one" "_law_one" (defArgs s__law_one) (defBody s__law_one) (defScope s__law_one) .none kV__law_one dc__law_one pm__law_one an__law_one cd__law_one ct__law_one), sl__law_one⟩)
    (c__law_one_ : PySem.W.codeIn K cd__law_one "_law_one" = true)
    (k__law_one : PySem.W.keepIn K (.ref f__law_one) = true)
    (a_check_process : PySem.W.nsIn K mainGlobals "check_process" = some (some (.ref f_check_process)))
    (l_check_process : K.lookup f_check_process = some ⟨oc_check_process, od_check_process, .func (PySem.W.fnOf "check_process" "check_process" (defArgs s_check_process) (defBody s_check_process) (defScope s_check_process) .none kV_check_process dc_check_process pm_check_process an_check_process cd_check_process ct_check_process), sl_check_process⟩)
    (c_check_process_ : PySem.W.codeIn K cd_check_process "check_process" = true)
    (k_check_process : PySem.W.keepIn K (.ref f_check_process) = true)
    (a_gap_in : PySem.W.nsIn K mainGlobals "gap_in" = some (some (.ref f_gap_in)))
    (l_gap_in : K.lookup f_gap_in = some ⟨oc_gap_in, od_gap_in, .func (PySem.W.fnOf "gap_in" "gap_in" (defArgs s_gap_in) (defBody s_gap_in) (defScope s_gap_in) .none kV_gap_in dc_gap_in pm_gap_in an_gap_in cd_gap_in ct_gap_in), sl_gap_in⟩)
    (c_gap_in_ : PySem.W.codeIn K cd_gap_in "gap_in" = true)
    (k_gap_in : PySem.W.keepIn K (.ref f_gap_in) = true)
    (a_gap : PySem.W.nsIn K mainGlobals "gap" = some (some (.ref f_gap)))
    (l_gap : K.lookup f_gap = some ⟨oc_gap, od_gap, .func (PySem.W.fnOf "gap" "gap" (defArgs s_gap) (defBody s_gap) (defScope s_gap) .none kV_gap dc_gap pm_gap an_gap cd_gap ct_gap), sl_gap⟩)
    (c_gap_ : PySem.W.codeIn K cd_gap "gap" = true)
    (k_gap : PySem.W.keepIn K (.ref f_gap) = true)
    (a_Mapped___init__ : PySem.W.findIn K (.ref A6) "__init__" = some (some (.ref f_Mapped___init__)))
    (i_Mapped___init__ : PySem.W.isFn K (.ref f_Mapped___init__) = true)
    (l_Mapped___init__ : K.lookup f_Mapped___init__ = some ⟨oc_Mapped___init__, od_Mapped___init__, .func (PySem.W.fnOf "__init__" "Mapped.__init__" (defArgs s_Mapped___init__) (defBody s_Mapped___init__) (defScope s_Mapped___init__) .none kV_Mapped___init__ dc_Mapped___init__ pm_Mapped___init__ an_Mapped___init__ cd_Mapped___init__ ct_Mapped___init__), sl_Mapped___init__⟩)
    (c_Mapped___init___ : PySem.W.codeIn K cd_Mapped___init__ "Mapped.__init__" = true)
    (k_Mapped___init__ : PySem.W.keepIn K (.ref f_Mapped___init__) = true)
    (a_Stack_put : PySem.W.findIn K (.ref A8) "put" = some (some (.ref f_Stack_put)))
    (i_Stack_put : PySem.W.isFn K (.ref f_Stack_put) = true)
    (l_Stack_put : K.lookup f_Stack_put = some ⟨oc_Stack_put, od_Stack_put, .func (PySem.W.fnOf "put" "Stack.put" (defArgs s_Stack_put) (defBody s_Stack_put) (defScope s_Stack_put) .none kV_Stack_put dc_Stack_put pm_Stack_put an_Stack_put cd_Stack_put ct_Stack_put), sl_Stack_put⟩)
    (c_Stack_put_ : PySem.W.codeIn K cd_Stack_put "Stack.put" = true)
    (k_Stack_put : PySem.W.keepIn K (.ref f_Stack_put) = true)
    (a_Stack_relock : PySem.W.findIn K (.ref A8) "relock" = some (some (.ref f_Stack_relock)))
    (i_Stack_relock : PySem.W.isFn K (.ref f_Stack_relock) = true)
    (l_Stack_relock : K.lookup f_Stack_relock = some ⟨oc_Stack_relock, od_Stack_relock, .func (PySem.W.fnOf "relock" "Stack.relock" (defArgs s_Stack_relock) (defBody s_Stack_relock) (defScope s_Stack_relock) .none kV_Stack_relock dc_Stack_relock pm_Stack_relock an_Stack_relock cd_Stack_relock ct_Stack_relock), sl_Stack_relock⟩)
    (c_Stack_relock_ : PySem.W.codeIn K cd_Stack_relock "Stack.relock" = true)
    (k_Stack_relock : PySem.W.keepIn K (.ref f_Stack_relock) = true)
    (a_System_locked_items : PySem.W.findIn K (.ref A9) "locked_items" = some (some (.ref f_System_locked_items)))
    (i_System_locked_items : PySem.W.isFn K (.ref f_System_locked_items) = true)
    (l_System_locked_items : K.lookup f_System_locked_items = some ⟨oc_System_locked_items, od_System_locked_items, .func (PySem.W.fnOf "locked_items" "System.locked_items" (defArgs s_System_locked_items) (defBody s_System_locked_items) (defScope s_System_locked_items) .none kV_System_locked_items dc_System_locked_items pm_System_locked_items an_System_locked_items cd_System_locked_items ct_System_locked_items), sl_System_locked_items⟩)
    (c_System_locked_items_ : PySem.W.codeIn K cd_System_locked_items "System.locked_items" = true)
    (k_System_locked_items : PySem.W.keepIn K (.ref f_System_locked_items) = true)
    (a_System_locked_pages : PySem.W.findIn K (.ref A9) "locked_pages" = some (some (.ref f_System_locked_pages)))
    (i_System_locked_pages : PySem.W.isFn K (.ref f_System_locked_pages) = true)
    (l_System_locked_pages : K.lookup f_System_locked_pages = some ⟨oc_System_locked_pages, od_System_locked_pages, .func (PySem.W.fnOf "locked_pages" "System.locked_pages" (defArgs s_System_locked_pages) (defBody s_System_locked_pages) (defScope s_System_locked_pages) .none kV_System_locked_pages dc_System_locked_pages pm_System_locked_pages an_System_locked_pages cd_System_locked_pages ct_System_locked_pages), sl_System_locked_pages⟩)
    (c_System_locked_pages_ : PySem.W.codeIn K cd_System_locked_pages "System.locked_pages" = true)
    (k_System_locked_pages : PySem.W.keepIn K (.ref f_System_locked_pages) = true)
    (a_System_settle : PySem.W.findIn K (.ref A9) "settle" = some (some (.ref f_System_settle)))
    (i_System_settle : PySem.W.isFn K (.ref f_System_settle) = true)
    (l_System_settle : K.lookup f_System_settle = some ⟨oc_System_settle, od_System_settle, .func (PySem.W.fnOf "settle" "System.settle" (defArgs s_System_settle) (defBody s_System_settle) (defScope s_System_settle) .none kV_System_settle dc_System_settle pm_System_settle an_System_settle cd_System_settle ct_System_settle), sl_System_settle⟩)
    (c_System_settle_ : PySem.W.codeIn K cd_System_settle "System.settle" = true)
    (k_System_settle : PySem.W.keepIn K (.ref f_System_settle) = true)
    (a_sorted_pages : PySem.W.nsIn K mainGlobals "sorted_pages" = some (some (.ref f_sorted_pages)))
    (l_sorted_pages : K.lookup f_sorted_pages = some ⟨oc_sorted_pages, od_sorted_pages, .func (PySem.W.fnOf "sorted_pages" "sorted_pages" (defArgs s_sorted_pages) (defBody s_sorted_pages) (defScope s_sorted_pages) .none kV_sorted_pages dc_sorted_pages pm_sorted_pages an_sorted_pages cd_sorted_pages ct_sorted_pages), sl_sorted_pages⟩)
    (c_sorted_pages_ : PySem.W.codeIn K cd_sorted_pages "sorted_pages" = true)
    (k_sorted_pages : PySem.W.keepIn K (.ref f_sorted_pages) = true)
    (a_places : PySem.W.nsIn K mainGlobals "places" = some (some (.ref f_places)))
    (l_places : K.lookup f_places = some ⟨oc_places, od_places, .func (PySem.W.fnOf "places" "places" (defArgs s_places) (defBody s_places) (defScope s_places) .none kV_places dc_places pm_places an_places cd_places ct_places), sl_places⟩)
    (c_places_ : PySem.W.codeIn K cd_places "places" = true)
    (k_places : PySem.W.keepIn K (.ref f_places) = true)
    (a_tidy : PySem.W.nsIn K mainGlobals "tidy" = some (some (.ref f_tidy)))
    (l_tidy : K.lookup f_tidy = some ⟨oc_tidy, od_tidy, .func (PySem.W.fnOf "tidy" "tidy" (defArgs s_tidy) (defBody s_tidy) (defScope s_tidy) .none kV_tidy dc_tidy pm_tidy an_tidy cd_tidy ct_tidy), sl_tidy⟩)
    (c_tidy_ : PySem.W.codeIn K cd_tidy "tidy" = true)
    (k_tidy : PySem.W.keepIn K (.ref f_tidy) = true)
    (a_System_done : PySem.W.findIn K (.ref A9) "done" = some (some (.ref f_System_done)))
    (i_System_done : PySem.W.isFn K (.ref f_System_done) = true)
    (l_System_done : K.lookup f_System_done = some ⟨oc_System_done, od_System_done, .func (PySem.W.fnOf "done" "System.done" (defArgs s_System_done) (defBody s_System_done) (defScope s_System_done) .none kV_System_done dc_System_done pm_System_done an_System_done cd_System_done ct_System_done), sl_System_done⟩)
    (c_System_done_ : PySem.W.codeIn K cd_System_done "System.done" = true)
    (k_System_done : PySem.W.keepIn K (.ref f_System_done) = true)
    (a_check_charge : PySem.W.nsIn K mainGlobals "check_charge" = some (some (.ref f_check_charge)))
    (l_check_charge : K.lookup f_check_charge = some ⟨oc_check_charge, od_check_charge, .func (PySem.W.fnOf "check_charge" "check_charge" (defArgs s_check_charge) (defBody s_check_charge) (defScope s_check_charge) (.ref T_check_charge) kV_check_charge dc_check_charge pm_check_charge an_check_charge cd_check_charge ct_check_charge), sl_check_charge⟩)
    (c_check_charge_ : PySem.W.codeIn K cd_check_charge "check_charge" = true)
    (k_check_charge : PySem.W.keepIn K (.ref f_check_charge) = true)
    (d_check_charge : K.lookup T_check_charge = some ⟨ot_check_charge, odt_check_charge, .seq (List.toArray [.none]) nt_check_charge, slt_check_charge⟩)
    (a_check_rights : PySem.W.nsIn K mainGlobals "check_rights" = some (some (.ref f_check_rights)))
    (l_check_rights : K.lookup f_check_rights = some ⟨oc_check_rights, od_check_rights, .func (PySem.W.fnOf "check_rights" "check_rights" (defArgs s_check_rights) (defBody s_check_rights) (defScope s_check_rights) .none kV_check_rights dc_check_rights pm_check_rights an_check_rights cd_check_rights ct_check_rights), sl_check_rights⟩)
    (c_check_rights_ : PySem.W.codeIn K cd_check_rights "check_rights" = true)
    (k_check_rights : PySem.W.keepIn K (.ref f_check_rights) = true)
    (a_is_name : PySem.W.nsIn K mainGlobals "is_name" = some (some (.ref f_is_name)))
    (l_is_name : K.lookup f_is_name = some ⟨oc_is_name, od_is_name, .func (PySem.W.fnOf "is_name" "is_name" (defArgs s_is_name) (defBody s_is_name) (defScope s_is_name) .none kV_is_name dc_is_name pm_is_name an_is_name cd_is_name ct_is_name), sl_is_name⟩)
    (c_is_name_ : PySem.W.codeIn K cd_is_name "is_name" = true)
    (k_is_name : PySem.W.keepIn K (.ref f_is_name) = true)
    (a_check_source : PySem.W.nsIn K mainGlobals "check_source" = some (some (.ref f_check_source)))
    (l_check_source : K.lookup f_check_source = some ⟨oc_check_source, od_check_source, .func (PySem.W.fnOf "check_source" "check_source" (defArgs s_check_source) (defBody s_check_source) (defScope s_check_source) .none kV_check_source dc_check_source pm_check_source an_check_source cd_check_source ct_check_source), sl_check_source⟩)
    (c_check_source_ : PySem.W.codeIn K cd_check_source "check_source" = true)
    (k_check_source : PySem.W.keepIn K (.ref f_check_source) = true)
    (a_place_for : PySem.W.nsIn K mainGlobals "place_for" = some (some (.ref f_place_for)))
    (l_place_for : K.lookup f_place_for = some ⟨oc_place_for, od_place_for, .func (PySem.W.fnOf "place_for" "place_for" (defArgs s_place_for) (defBody s_place_for) (defScope s_place_for) .none kV_place_for dc_place_for pm_place_for an_place_for cd_place_for ct_place_for), sl_place_for⟩)
    (c_place_for_ : PySem.W.codeIn K cd_place_for "place_for" = true)
    (k_place_for : PySem.W.keepIn K (.ref f_place_for) = true)
    (a_let_go : PySem.W.nsIn K mainGlobals "let_go" = some (some (.ref f_let_go)))
    (l_let_go : K.lookup f_let_go = some ⟨oc_let_go, od_let_go, .func (PySem.W.fnOf "let_go" "let_go" (defArgs s_let_go) (defBody s_let_go) (defScope s_let_go) .none kV_let_go dc_let_go pm_let_go an_let_go cd_let_go ct_let_go), sl_let_go⟩)
    (c_let_go_ : PySem.W.codeIn K cd_let_go "let_go" = true)
    (k_let_go : PySem.W.keepIn K (.ref f_let_go) = true)
    (a_remove : PySem.W.nsIn K mainGlobals "remove" = some (some (.ref f_remove)))
    (l_remove : K.lookup f_remove = some ⟨oc_remove, od_remove, .func (PySem.W.fnOf "remove" "remove" (defArgs s_remove) (defBody s_remove) (defScope s_remove) .none kV_remove dc_remove pm_remove an_remove cd_remove ct_remove), sl_remove⟩)
    (c_remove_ : PySem.W.codeIn K cd_remove "remove" = true)
    (k_remove : PySem.W.keepIn K (.ref f_remove) = true)
    (a_map_pages : PySem.W.nsIn K mainGlobals "map_pages" = some (some (.ref f_map_pages)))
    (l_map_pages : K.lookup f_map_pages = some ⟨oc_map_pages, od_map_pages, .func (PySem.W.fnOf "map_pages" "map_pages" (defArgs s_map_pages) (defBody s_map_pages) (defScope s_map_pages) .none (.ref D_map_pages) dc_map_pages pm_map_pages an_map_pages cd_map_pages ct_map_pages), sl_map_pages⟩)
    (c_map_pages_ : PySem.W.codeIn K cd_map_pages "map_pages" = true)
    (k_map_pages : PySem.W.keepIn K (.ref f_map_pages) = true)
    (w_map_pages_rights : PySem.W.nsIn K D_map_pages "rights" = some (some (.str "rw" tk_0)))
    (w_map_pages_shared : PySem.W.nsIn K D_map_pages "shared" = some (some (.bool false)))
    (w_map_pages_source : PySem.W.nsIn K D_map_pages "source" = some (some (.none)))
    (w_map_pages_index : PySem.W.nsIn K D_map_pages "index" = some (some (.int 0 tk_1)))
    (w_map_pages_at : PySem.W.nsIn K D_map_pages "at" = some (some (.none)))
    (a_Mapped_attributes : PySem.W.findIn K (.ref A6) "attributes" = some (some (.ref f_Mapped_attributes)))
    (i_Mapped_attributes : PySem.W.isFn K (.ref f_Mapped_attributes) = true)
    (l_Mapped_attributes : K.lookup f_Mapped_attributes = some ⟨oc_Mapped_attributes, od_Mapped_attributes, .func (PySem.W.fnOf "attributes" "Mapped.attributes" (defArgs s_Mapped_attributes) (defBody s_Mapped_attributes) (defScope s_Mapped_attributes) .none kV_Mapped_attributes dc_Mapped_attributes pm_Mapped_attributes an_Mapped_attributes cd_Mapped_attributes ct_Mapped_attributes), sl_Mapped_attributes⟩)
    (c_Mapped_attributes_ : PySem.W.codeIn K cd_Mapped_attributes "Mapped.attributes" = true)
    (k_Mapped_attributes : PySem.W.keepIn K (.ref f_Mapped_attributes) = true)
    (a_follows : PySem.W.nsIn K mainGlobals "follows" = some (some (.ref f_follows)))
    (l_follows : K.lookup f_follows = some ⟨oc_follows, od_follows, .func (PySem.W.fnOf "follows" "follows" (defArgs s_follows) (defBody s_follows) (defScope s_follows) .none kV_follows dc_follows pm_follows an_follows cd_follows ct_follows), sl_follows⟩)
    (c_follows_ : PySem.W.codeIn K cd_follows "follows" = true)
    (k_follows : PySem.W.keepIn K (.ref f_follows) = true)
    (a_regions : PySem.W.nsIn K mainGlobals "regions" = some (some (.ref f_regions)))
    (l_regions : K.lookup f_regions = some ⟨oc_regions, od_regions, .func (PySem.W.fnOf "regions" "regions" (defArgs s_regions) (defBody s_regions) (defScope s_regions) .none kV_regions dc_regions pm_regions an_regions cd_regions ct_regions), sl_regions⟩)
    (c_regions_ : PySem.W.codeIn K cd_regions "regions" = true)
    (k_regions : PySem.W.keepIn K (.ref f_regions) = true)
    (a_widest : PySem.W.nsIn K mainGlobals "widest" = some (some (.ref f_widest)))
    (l_widest : K.lookup f_widest = some ⟨oc_widest, od_widest, .func (PySem.W.fnOf "widest" "widest" (defArgs s_widest) (defBody s_widest) (defScope s_widest) .none kV_widest dc_widest pm_widest an_widest cd_widest ct_widest), sl_widest⟩)
    (c_widest_ : PySem.W.codeIn K cd_widest "widest" = true)
    (k_widest : PySem.W.keepIn K (.ref f_widest) = true)
    (a__law_refused : PySem.W.nsIn K mainGlobals "_law_refused" = some (some (.ref f__law_refused)))
    (l__law_refused : K.lookup f__law_refused = some ⟨oc__law_refused, od__law_refused, .func (PySem.W.fnOf "_law_refused" "_law_refused" (defArgs s__law_refused) (defBody s__law_refused) (defScope s__law_refused) .none kV__law_refused dc__law_refused pm__law_refused an__law_refused (.ref c__law_refused) ct__law_refused), sl__law_refused⟩)
    (c__law_refused_ : PySem.W.codeIn K (.ref c__law_refused) "_law_refused" = true)
    (k__law_refused : PySem.W.keepIn K (.ref f__law_refused) = true)
    (lc__law_refused : K.lookup c__law_refused = some ⟨occ__law_refused, odc__law_refused, .fields us__law_refused, slc__law_refused⟩)
    (p__law_refused_ : us__law_refused[11]? = some (.ref P__law_refused))
    (hc__law_refused : PySem.W.codeHdIn K c__law_refused P__law_refused = true)
    (np__law_refused : K.lookup P__law_refused = none)
    (mt__law_refused : P__law_refused ∈ ts)
    (a__law_well : PySem.W.nsIn K mainGlobals "_law_well" = some (some (.ref f__law_well)))
    (l__law_well : K.lookup f__law_well = some ⟨oc__law_well, od__law_well, .func (PySem.W.fnOf "_law_well" "_law_well" (defArgs s__law_well) (defBody s__law_well) (defScope s__law_well) .none kV__law_well dc__law_well pm__law_well an__law_well cd__law_well ct__law_well), sl__law_well⟩)
    (c__law_well_ : PySem.W.codeIn K cd__law_well "_law_well" = true)
    (k__law_well : PySem.W.keepIn K (.ref f__law_well) = true)
    (a__law_widest : PySem.W.nsIn K mainGlobals "_law_widest" = some (some (.ref f__law_widest)))
    (l__law_widest : K.lookup f__law_widest = some ⟨oc__law_widest, od__law_widest, .func (PySem.W.fnOf "_law_widest" "_law_widest" (defArgs s__law_widest) (defBody s__law_widest) (defScope s__law_widest) .none kV__law_widest dc__law_widest pm__law_widest an__law_widest cd__law_widest ct__law_widest), sl__law_widest⟩)
    (c__law_widest_ : PySem.W.codeIn K cd__law_widest "_law_widest" = true)
    (k__law_widest : PySem.W.keepIn K (.ref f__law_widest) = true)
    (a_new_process : PySem.W.nsIn K mainGlobals "new_process" = some (some (.ref f_new_process)))
    (l_new_process : K.lookup f_new_process = some ⟨oc_new_process, od_new_process, .func (PySem.W.fnOf "new_process" "new_process" (defArgs s_new_process) (defBody s_new_process) (defScope s_new_process) .none kV_new_process dc_new_process pm_new_process an_new_process cd_new_process ct_new_process), sl_new_process⟩)
    (c_new_process_ : PySem.W.codeIn K cd_new_process "new_process" = true)
    (k_new_process : PySem.W.keepIn K (.ref f_new_process) = true)
    (a_spawn : PySem.W.nsIn K mainGlobals "spawn" = some (some (.ref f_spawn)))
    (l_spawn : K.lookup f_spawn = some ⟨oc_spawn, od_spawn, .func (PySem.W.fnOf "spawn" "spawn" (defArgs s_spawn) (defBody s_spawn) (defScope s_spawn) .none kV_spawn dc_spawn pm_spawn an_spawn cd_spawn ct_spawn), sl_spawn⟩)
    (c_spawn_ : PySem.W.codeIn K cd_spawn "spawn" = true)
    (k_spawn : PySem.W.keepIn K (.ref f_spawn) = true)
    (a_check_range : PySem.W.nsIn K mainGlobals "check_range" = some (some (.ref f_check_range)))
    (l_check_range : K.lookup f_check_range = some ⟨oc_check_range, od_check_range, .func (PySem.W.fnOf "check_range" "check_range" (defArgs s_check_range) (defBody s_check_range) (defScope s_check_range) .none kV_check_range dc_check_range pm_check_range an_check_range cd_check_range ct_check_range), sl_check_range⟩)
    (c_check_range_ : PySem.W.codeIn K cd_check_range "check_range" = true)
    (k_check_range : PySem.W.keepIn K (.ref f_check_range) = true)
    (a_unmap : PySem.W.nsIn K mainGlobals "unmap" = some (some (.ref f_unmap)))
    (l_unmap : K.lookup f_unmap = some ⟨oc_unmap, od_unmap, .func (PySem.W.fnOf "unmap" "unmap" (defArgs s_unmap) (defBody s_unmap) (defScope s_unmap) .none kV_unmap dc_unmap pm_unmap an_unmap cd_unmap ct_unmap), sl_unmap⟩)
    (c_unmap_ : PySem.W.codeIn K cd_unmap "unmap" = true)
    (k_unmap : PySem.W.keepIn K (.ref f_unmap) = true)
    (a_law : PySem.W.nsIn K mainGlobals "law" = some (some (.ref f_law)))
    (l_law : K.lookup f_law = some ⟨oc_law, od_law, .func (PySem.W.fnOf "law" "law" (defArgs s_law) (defBody s_law) (defScope s_law) .none kV_law dc_law pm_law an_law (.ref c_law) ct_law), sl_law⟩)
    (c_law_ : PySem.W.codeIn K (.ref c_law) "law" = true)
    (k_law : PySem.W.keepIn K (.ref f_law) = true)
    (lc_law : K.lookup c_law = some ⟨occ_law, odc_law, .fields us_law, slc_law⟩)
    (p_law_ : us_law[11]? = some (.ref P_law))
    (hc_law : PySem.W.codeHdIn K c_law P_law = true)
    (np_law : K.lookup P_law = none)
    (mt_law : P_law ∈ ts)
    (ne__law_refused_law : P__law_refused ≠ P_law)
    (g_LETTERS : PySem.W.nsIn K mainGlobals "LETTERS" = some (some (Value.str "abcdefghijklmnopqrstuvwxyz" t_RLETTERS)))
    (g_PAGES : PySem.W.nsIn K mainGlobals "PAGES" = some (some (Value.int 512 t_RPAGES)))
    (g_RIGHTS : PySem.W.nsIn K mainGlobals "RIGHTS" = some (some (.ref R_RIGHTS)))
    (gl_RIGHTS : K.lookup R_RIGHTS = some ⟨.type "tuple", od_RRIGHTS, .seq (List.toArray [Value.str "none" tk_2, Value.str "r" tk_3, Value.str "rw" tk_4]) nt_RRIGHTS, sl_RRIGHTS⟩)
    (no_range : PySem.W.nsIn K mainGlobals "range" = some none)
    (no_enumerate : PySem.W.nsIn K mainGlobals "enumerate" = some none)
    (no_zip : PySem.W.nsIn K mainGlobals "zip" = some none)
    (no_len : PySem.W.nsIn K mainGlobals "len" = some none)
    (no_int : PySem.W.nsIn K mainGlobals "int" = some none)
    (no_abs : PySem.W.nsIn K mainGlobals "abs" = some none)
    (no_isinstance : PySem.W.nsIn K mainGlobals "isinstance" = some none)
    (no_sum : PySem.W.nsIn K mainGlobals "sum" = some none)
    (no_any : PySem.W.nsIn K mainGlobals "any" = some none)
    (no_all : PySem.W.nsIn K mainGlobals "all" = some none)
    (no_sorted : PySem.W.nsIn K mainGlobals "sorted" = some none)
    (no_list : PySem.W.nsIn K mainGlobals "list" = some none)
    (no_max : PySem.W.nsIn K mainGlobals "max" = some none)
    (no_min : PySem.W.nsIn K mainGlobals "min" = some none)
    (no_bool : PySem.W.nsIn K mainGlobals "bool" = some none)
    (no_str : PySem.W.nsIn K mainGlobals "str" = some none)
    (no_tuple : PySem.W.nsIn K mainGlobals "tuple" = some none)
    (no_dict : PySem.W.nsIn K mainGlobals "dict" = some none) :
    LamX.LawAtS l w K (L2.CX l.prog w) 10 63 "script" mg fa h := by
  let cl : CT := ⟨fun i => match i with | 0 => A0 | 1 => A1 | 2 => A2 | 3 => A3 | 4 => A4 | 5 => A5 | 6 => A6 | 7 => A7 | 8 => A8 | 9 => A9 | _ => 0, fun i => match i with | 6 => fl_6 | 7 => fl_7 | 8 => fl_8 | 9 => fl_9 | _ => [], [(P__law_refused, ((("_law_refused" : Str) ++ (".<locals>." : Str)) ++ ("<lambda>" : Str))), (P_law, ((("law" : Str) ++ (".<locals>." : Str)) ++ ("<lambda>" : Str)))]⟩
  have T : Txt K mg cl := ⟨⟨pg6, hd6, po6, sa6⟩, (all_cons n6_0 (all_cons n6_1 (all_cons n6_2 (all_cons n6_3 (all_cons n6_4 (all_cons n6_5 (all_cons n6_6 all_nil))))))), (fun _ h => h), ⟨pg7, hd7, po7, sa7⟩, (all_cons n7_0 (all_cons n7_1 (all_cons n7_2 (all_cons n7_3 (all_cons n7_4 (all_cons n7_5 (all_cons n7_6 all_nil))))))), (fun _ h => h), ⟨pg8, hd8, po8, sa8⟩, (all_cons n8_0 (all_cons n8_1 (all_cons n8_2 (all_cons n8_3 (all_cons n8_4 (all_cons n8_5 (all_cons n8_6 (all_cons n8_7 (all_cons n8_8 (all_cons n8_9 (all_cons n8_10 (all_cons n8_11 (all_cons n8_12 (all_cons n8_13 (all_cons n8_14 all_nil))))))))))))))), (fun _ h => h), ⟨pg9, hd9, po9, sa9⟩, (all_cons n9_0 (all_cons n9_1 (all_cons n9_2 (all_cons n9_3 (all_cons n9_4 (all_cons n9_5 (all_cons n9_6 (all_cons n9_7 (all_cons n9_8 (all_cons n9_9 (all_cons n9_10 (all_cons n9_11 (all_cons n9_12 (all_cons n9_13 all_nil)))))))))))))), (fun _ h => h), (PySem.W.mg_of X G aC0), (PySem.W.mg_of X G aC1), (PySem.W.mg_of X G aC2), (PySem.W.mg_of X G aC3), (PySem.W.mg_of X G aC4), (PySem.W.mg_of X G aC5), ⟨ga0, gg0, eb0, hd0⟩, ⟨ga1, gg1, eb1, hd1⟩, xn1, ⟨ga2, gg2, eb2, hd2⟩, xn2, ⟨ga3, gg3, eb3, hd3⟩, xn3, ⟨ga4, gg4, eb4, hd4⟩, xn4, ⟨ga5, gg5, eb5, hd5⟩, (all_cons (exm_mk eb0 ic0 tc0 ss0_0) (all_cons (exm_mk eb1 ic1 tc1 ss0_1) (all_cons (exm_mk eb2 ic2 tc2 ss0_2) (all_cons (exm_mk eb3 ic3 tc3 ss0_3) (all_cons (exm_mk eb4 ic4 tc4 ss0_4) (all_cons (exm_mk eb5 ic5 tc5 ss0_5) (all_cons (exm_mk eb0 ic0 tc0 ss1_0) (all_cons (exm_mk eb1 ic1 tc1 ss1_1) (all_cons (exm_mk eb2 ic2 tc2 ss1_2) (all_cons (exm_mk eb3 ic3 tc3 ss1_3) (all_cons (exm_mk eb4 ic4 tc4 ss1_4) (all_cons (exm_mk eb5 ic5 tc5 ss1_5) (all_cons (exm_mk eb0 ic0 tc0 ss2_0) (all_cons (exm_mk eb1 ic1 tc1 ss2_1) (all_cons (exm_mk eb2 ic2 tc2 ss2_2) (all_cons (exm_mk eb3 ic3 tc3 ss2_3) (all_cons (exm_mk eb4 ic4 tc4 ss2_4) (all_cons (exm_mk eb5 ic5 tc5 ss2_5) (all_cons (exm_mk eb0 ic0 tc0 ss3_0) (all_cons (exm_mk eb1 ic1 tc1 ss3_1) (all_cons (exm_mk eb2 ic2 tc2 ss3_2) (all_cons (exm_mk eb3 ic3 tc3 ss3_3) (all_cons (exm_mk eb4 ic4 tc4 ss3_4) (all_cons (exm_mk eb5 ic5 tc5 ss3_5) (all_cons (exm_mk eb0 ic0 tc0 ss4_0) (all_cons (exm_mk eb1 ic1 tc1 ss4_1) (all_cons (exm_mk eb2 ic2 tc2 ss4_2) (all_cons (exm_mk eb3 ic3 tc3 ss4_3) (all_cons (exm_mk eb4 ic4 tc4 ss4_4) (all_cons (exm_mk eb5 ic5 tc5 ss4_5) (all_cons (exm_mk eb0 ic0 tc0 ss5_0) (all_cons (exm_mk eb1 ic1 tc1 ss5_1) (all_cons (exm_mk eb2 ic2 tc2 ss5_2) (all_cons (exm_mk eb3 ic3 tc3 ss5_3) (all_cons (exm_mk eb4 ic4 tc4 ss5_4) (all_cons (exm_mk eb5 ic5 tc5 ss5_5) all_nil)))))))))))))))))))))))))))))))))))), (all_cons (PySem.W.mg_none_of X G no_range) (all_cons (PySem.W.mg_none_of X G no_enumerate) (all_cons (PySem.W.mg_none_of X G no_zip) (all_cons (PySem.W.mg_none_of X G no_len) (all_cons (PySem.W.mg_none_of X G no_int) (all_cons (PySem.W.mg_none_of X G no_abs) (all_cons (PySem.W.mg_none_of X G no_isinstance) (all_cons (PySem.W.mg_none_of X G no_sum) (all_cons (PySem.W.mg_none_of X G no_any) (all_cons (PySem.W.mg_none_of X G no_all) (all_cons (PySem.W.mg_none_of X G no_sorted) (all_cons (PySem.W.mg_none_of X G no_list) (all_cons (PySem.W.mg_none_of X G no_max) (all_cons (PySem.W.mg_none_of X G no_min) (all_cons (PySem.W.mg_none_of X G no_bool) (all_cons (PySem.W.mg_none_of X G no_str) (all_cons (PySem.W.mg_none_of X G no_tuple) (all_cons (PySem.W.mg_none_of X G no_dict) all_nil)))))))))))))))))), ⟨t_RLETTERS, PySem.W.mg_of X G g_LETTERS⟩, ⟨t_RPAGES, PySem.W.mg_of X G g_PAGES⟩, ⟨R_RIGHTS, [V.str "none", V.str "r", V.str "rw"], PySem.W.mg_of X G g_RIGHTS, ⟨_, _, _, gl_RIGHTS, rfl, rfl, by show 3 ≤ sizeLine; decide, (.cons ⟨_, rfl⟩ (.cons ⟨_, rfl⟩ (.cons ⟨_, rfl⟩ .nil)))⟩, fun _ _ => (.cons (.str "none") (.cons (.str "r") (.cons (.str "rw") .nil)))⟩⟩
  have hfl := hfa.symm.trans (PySem.W.mg_of X G a_law)
  cases hfl
  refine ⟨PySem.W.fnOf "law" "law" (defArgs s_law) (defBody s_law) (defScope s_law) .none kV_law dc_law pm_law an_law (.ref c_law) ct_law, [(c__law_refused, P__law_refused), (c_law, P_law)], spLaw K cl p_law (fun _ _ _ => False), (all_cons (hT _ mt__law_refused) (all_cons (hT _ mt_law) all_nil)), (all_cons np__law_refused (all_cons np_law all_nil)), (all_cons (PySem.W.codeHd_of_K X hc__law_refused) (all_cons (PySem.W.codeHd_of_K X hc_law) all_nil)), fun s v => .of_eq rfl, fun H a ns hl hi hH hS => ⟨a, ns, rfl, hS, ?_, hp ns hl hi, fun _ => rfl⟩, fun base KB GB TB => ?_⟩
  · intro p hp
    exact tabs_empty hH (all_cons ⟨c__law_refused, by simp⟩ (all_cons ⟨c_law, by simp⟩ all_nil)) p hp
  have F_NoSystem___init__ := fun_mk (st := s_NoSystem___init__) l_NoSystem___init__ c_NoSystem___init___ k_NoSystem___init__
  have O1 : OexC K A1 := ⟨⟨_, _, _, _, _, _, _, _, _, _, _, _, _, _, _, xl1, xb1⟩, sa1, eb1, tc1, kc1⟩
  have x_NoSystem : ExM l.prog w K mg base cl 1 "part" := ⟨O1, f_NoSystem___init__, _, _, a_NoSystem___init__, t_NoSystem___init__, x_NoSystem___init__ F_NoSystem___init__ (PySem.W.mg_of X G aC0) ⟨bg0, br0, be0⟩ O1 xn1, F_NoSystem___init__.binds (ps := ["self", "part"]) fun _ _ _ _ _ _ us hl => match us, hl with | [_, _], _ => rfl⟩
  have F_NoProcess___init__ := fun_mk (st := s_NoProcess___init__) l_NoProcess___init__ c_NoProcess___init___ k_NoProcess___init__
  have O2 : OexC K A2 := ⟨⟨_, _, _, _, _, _, _, _, _, _, _, _, _, _, _, xl2, xb2⟩, sa2, eb2, tc2, kc2⟩
  have x_NoProcess : ExM l.prog w K mg base cl 2 "process" := ⟨O2, f_NoProcess___init__, _, _, a_NoProcess___init__, t_NoProcess___init__, x_NoProcess___init__ F_NoProcess___init__ (PySem.W.mg_of X G aC0) ⟨bg0, br0, be0⟩ O2 xn2, F_NoProcess___init__.binds (ps := ["self", "process"]) fun _ _ _ _ _ _ us hl => match us, hl with | [_, _], _ => rfl⟩
  have F_NoPages___init__ := fun_mk (st := s_NoPages___init__) l_NoPages___init__ c_NoPages___init___ k_NoPages___init__
  have O3 : OexC K A3 := ⟨⟨_, _, _, _, _, _, _, _, _, _, _, _, _, _, _, xl3, xb3⟩, sa3, eb3, tc3, kc3⟩
  have x_NoPages : ExM l.prog w K mg base cl 3 "part" := ⟨O3, f_NoPages___init__, _, _, a_NoPages___init__, t_NoPages___init__, x_NoPages___init__ F_NoPages___init__ (PySem.W.mg_of X G aC0) ⟨bg0, br0, be0⟩ O3 xn3, F_NoPages___init__.binds (ps := ["self", "part"]) fun _ _ _ _ _ _ us hl => match us, hl with | [_, _], _ => rfl⟩
  have F_NoFile___init__ := fun_mk (st := s_NoFile___init__) l_NoFile___init__ c_NoFile___init___ k_NoFile___init__
  have O4 : OexC K A4 := ⟨⟨_, _, _, _, _, _, _, _, _, _, _, _, _, _, _, xl4, xb4⟩, sa4, eb4, tc4, kc4⟩
  have x_NoFile : ExM l.prog w K mg base cl 4 "name" := ⟨O4, f_NoFile___init__, _, _, a_NoFile___init__, t_NoFile___init__, x_NoFile___init__ F_NoFile___init__ (PySem.W.mg_of X G aC0) ⟨bg0, br0, be0⟩ O4 xn4, F_NoFile___init__.binds (ps := ["self", "name"]) fun _ _ _ _ _ _ us hl => match us, hl with | [_, _], _ => rfl⟩
  have said__law_said : SaidM K mg "_law_said" "ask" s__law_said := ⟨f__law_said, _, _, _, _, _, _, _, _, _, _, PySem.W.mg_of X G a__law_said, k__law_said, l__law_said, c__law_said_, (fun_mk (st := s__law_said) l__law_said c__law_said_ k__law_said).binds (ps := ["ask"]) fun _ _ _ _ _ _ us hl => match us, hl with | [_], _ => rfl⟩
  have F_Memory___init__ := fun_mk (st := s_Memory___init__) l_Memory___init__ c_Memory___init___ k_Memory___init__
  have G_Memory___init__ := fn_mp (P := l.prog) (w := w) (mg := mg) (base := base) F_Memory___init__ sc_Memory___init__ (w_Memory___init__ T)
  have c_Memory___init__ : ClsM l.prog w K mg base cl 1 7 "Memory" 1 [] p_Memory___init__ gp_Memory___init__ := ⟨⟨f_Memory___init__, _, ["self", "system"], G_Memory___init__, ⟨mk7, a_Memory___init__, i_Memory___init__, kc7⟩, (KBp.plain (F_Memory___init__.binds (ps := ["self", "system"]) fun _ _ _ _ _ _ us hl => match us, hl with | [_, _], _ => rfl))⟩, PySem.W.mg_of X G aC7⟩
  have F_Stack___init__ := fun_mk (st := s_Stack___init__) l_Stack___init__ c_Stack___init___ k_Stack___init__
  have G_Stack___init__ := fn_mp (P := l.prog) (w := w) (mg := mg) (base := base) F_Stack___init__ sc_Stack___init__ (w_Stack___init__ T)
  have c_Stack___init__ : ClsM l.prog w K mg base cl 1 8 "Stack" 0 [] p_Stack___init__ gp_Stack___init__ := ⟨⟨f_Stack___init__, _, ["self"], G_Stack___init__, ⟨mk8, a_Stack___init__, i_Stack___init__, kc8⟩, (KBp.plain (F_Stack___init__.binds (ps := ["self"]) fun _ _ _ _ _ _ us hl => match us, hl with | [_], _ => rfl))⟩, PySem.W.mg_of X G aC8⟩
  have F_is_integer := fun_mk (st := s_is_integer) l_is_integer c_is_integer_ k_is_integer
  have G_is_integer := fn_mp (P := l.prog) (w := w) (mg := mg) (base := base) F_is_integer sc_is_integer (w_is_integer T)
  have c_is_integer : CalM l.prog w K mg base cl 1 "is_integer" 1 [] p_is_integer gp_is_integer := ⟨f_is_integer, _, ["thing"], G_is_integer, PySem.W.mg_of X G a_is_integer, k_is_integer, (KBp.plain (F_is_integer.binds (ps := ["thing"]) fun _ _ _ _ _ _ us hl => match us, hl with | [_], _ => rfl))⟩
  have F_is_between := fun_mk (st := s_is_between) l_is_between c_is_between_ k_is_between
  have G_is_between := fn_mp (P := l.prog) (w := w) (mg := mg) (base := base) F_is_between sc_is_between (w_is_between T c_is_integer)
  have c_is_between : CalM l.prog w K mg base cl 2 "is_between" 3 [] p_is_between gp_is_between := ⟨f_is_between, _, ["thing", "low", "high"], G_is_between, PySem.W.mg_of X G a_is_between, k_is_between, (KBp.plain (F_is_between.binds (ps := ["thing", "low", "high"]) fun _ _ _ _ _ _ us hl => match us, hl with | [_, _, _], _ => rfl))⟩
  have G_System___init__ := fn_mpD (P := l.prog) (w := w) (mg := mg) (base := base) l_System___init__ c_System___init___ sc_System___init__ (w_System___init__ T c_Memory___init__ c_Stack___init__ c_is_between x_NoSystem)
  have D_System___init__ : FunD K "__init__" "System.__init__" (defArgs s_System___init__) (defBody s_System___init__) (defScope s_System___init__) [] [("frames", .non), ("slots", .non), ("strict", .bl false)] f_System___init__ _ := ⟨⟨_, _, _, _, _, _, _, _, _, _, rfl, l_System___init__, c_System___init___, .inl ⟨rfl, rfl⟩, .inr ⟨D_System___init__, rfl, (all_cons ⟨_, w_System___init___frames, rfl⟩ (all_cons ⟨_, w_System___init___slots, rfl⟩ (all_cons ⟨_, w_System___init___strict, rfl⟩ all_nil)))⟩⟩, k_System___init__⟩
  have c_System___init___k0 : ClsM l.prog w K mg base cl 3 9 "System" 0 [] p_System___init__ gp_System___init___k0 := ⟨⟨f_System___init__, _, ["self", "frames", "slots", "strict"], G_System___init__, ⟨mk9, a_System___init__, i_System___init__, kc9⟩, (kbp_kw0 D_System___init__ (by decide) (fun _ _ => (.cons (.non) (.cons (.non) (.cons (.bl false) .nil)))) rfl fun _ _ _ _ _ _ us mv h1 h2 => match us, mv, h1, h2 with | [_], [_, _, _], _, _ => ⟨_, _, _, _, _, _, rfl, rfl, ⟨_, _, _, _, _, _, rfl, rfl, ⟨_, _, _, _, _, _, rfl, rfl, rfl⟩⟩⟩)⟩, PySem.W.mg_of X G aC9⟩
  have F__law_draw := fun_mk (st := s__law_draw) l__law_draw c__law_draw_ k__law_draw
  have G__law_draw := fn_mp (P := l.prog) (w := w) (mg := mg) (base := base) F__law_draw sc__law_draw (w__law_draw T)
  have c__law_draw : CalM l.prog w K mg base cl 1 "_law_draw" 2 [] p__law_draw gp__law_draw := ⟨f__law_draw, _, ["well", "many"], G__law_draw, PySem.W.mg_of X G a__law_draw, k__law_draw, (KBp.plain (F__law_draw.binds (ps := ["well", "many"]) fun _ _ _ _ _ _ us hl => match us, hl with | [_, _], _ => rfl))⟩
  have F__law_fits := fun_mk (st := s__law_fits) l__law_fits c__law_fits_ k__law_fits
  have G__law_fits := fn_mp (P := l.prog) (w := w) (mg := mg) (base := base) F__law_fits sc__law_fits (w__law_fits T)
  have c__law_fits : CalM l.prog w K mg base cl 1 "_law_fits" 2 [] p__law_fits gp__law_fits := ⟨f__law_fits, _, ["space", "many"], G__law_fits, PySem.W.mg_of X G a__law_fits, k__law_fits, (KBp.plain (F__law_fits.binds (ps := ["space", "many"]) fun _ _ _ _ _ _ us hl => match us, hl with | [_, _], _ => rfl))⟩
  have F__law_one := fun_mk (st := s__law_one) l__law_one c__law_one_ k__law_one
  have G__law_one := fn_mp (P := l.prog) (w := w) (mg := mg) (base := base) F__law_one sc__law_one (w__law_one T c__law_draw)
  have c__law_one : CalM l.prog w K mg base cl 2 "_law_one" 2 [] p__law_one gp__law_one := ⟨f__law_one, _, ["well", "some"], G__law_one, PySem.W.mg_of X G a__law_one, k__law_one, (KBp.plain (F__law_one.binds (ps := ["well", "some"]) fun _ _ _ _ _ _ us hl => match us, hl with | [_, _], _ => rfl))⟩
  have F_check_process := fun_mk (st := s_check_process) l_check_process c_check_process_ k_check_process
  have G_check_process := fn_mp (P := l.prog) (w := w) (mg := mg) (base := base) F_check_process sc_check_process (w_check_process T c_is_integer x_NoProcess)
  have c_check_process : CalM l.prog w K mg base cl 3 "check_process" 2 [] p_check_process gp_check_process := ⟨f_check_process, _, ["system", "process"], G_check_process, PySem.W.mg_of X G a_check_process, k_check_process, (KBp.plain (F_check_process.binds (ps := ["system", "process"]) fun _ _ _ _ _ _ us hl => match us, hl with | [_, _], _ => rfl))⟩
  have F_gap_in := fun_mk (st := s_gap_in) l_gap_in c_gap_in_ k_gap_in
  have G_gap_in := fn_mp (P := l.prog) (w := w) (mg := mg) (base := base) F_gap_in sc_gap_in (w_gap_in T)
  have c_gap_in : CalM l.prog w K mg base cl 1 "gap_in" 2 [] p_gap_in gp_gap_in := ⟨f_gap_in, _, ["space", "count"], G_gap_in, PySem.W.mg_of X G a_gap_in, k_gap_in, (KBp.plain (F_gap_in.binds (ps := ["space", "count"]) fun _ _ _ _ _ _ us hl => match us, hl with | [_, _], _ => rfl))⟩
  have F_gap := fun_mk (st := s_gap) l_gap c_gap_ k_gap
  have G_gap := fn_mp (P := l.prog) (w := w) (mg := mg) (base := base) F_gap sc_gap (w_gap T c_check_process c_gap_in c_is_between x_NoPages)
  have c_gap : CalM l.prog w K mg base cl 4 "gap" 3 [] p_gap gp_gap := ⟨f_gap, _, ["system", "process", "count"], G_gap, PySem.W.mg_of X G a_gap, k_gap, (KBp.plain (F_gap.binds (ps := ["system", "process", "count"]) fun _ _ _ _ _ _ us hl => match us, hl with | [_, _, _], _ => rfl))⟩
  have F_Mapped___init__ := fun_mk (st := s_Mapped___init__) l_Mapped___init__ c_Mapped___init___ k_Mapped___init__
  have G_Mapped___init__ := fn_mp (P := l.prog) (w := w) (mg := mg) (base := base) F_Mapped___init__ sc_Mapped___init__ (w_Mapped___init__ T)
  have c_Mapped___init___kstamp : ClsM l.prog w K mg base cl 1 6 "Mapped" 4 ["stamp"] p_Mapped___init__ gp_Mapped___init___kstamp := ⟨⟨f_Mapped___init__, _, ["self", "rights", "shared", "source", "index", "stamp"], G_Mapped___init__, ⟨mk6, a_Mapped___init__, i_Mapped___init__, kc6⟩, (kbp_kwR F_Mapped___init__ rfl fun _ _ _ _ _ _ us ws h1 h2 => match us, ws, h1, h2 with | [_, _, _, _, _], [_], _, _ => rfl)⟩, PySem.W.mg_of X G aC6⟩
  have F_Stack_put := fun_mk (st := s_Stack_put) l_Stack_put c_Stack_put_ k_Stack_put
  have G_Stack_put := fn_mp (P := l.prog) (w := w) (mg := mg) (base := base) F_Stack_put sc_Stack_put (w_Stack_put T)
  have c_Stack_put : MetM l.prog w K mg base cl 1 8 "put" 2 p_Stack_put gp_Stack_put := ⟨⟨f_Stack_put, _, ["self", "at", "item"], G_Stack_put, ⟨a_Stack_put, i_Stack_put, k_Stack_put⟩, (KBp.plain (F_Stack_put.binds (ps := ["self", "at", "item"]) fun _ _ _ _ _ _ us hl => match us, hl with | [_, _, _], _ => rfl))⟩, ⟨pg8, hd8, po8, sa8⟩, by show ∀ z ∈ fl_8, z ≠ "put"; decide +kernel⟩
  have F_Stack_relock := fun_mk (st := s_Stack_relock) l_Stack_relock c_Stack_relock_ k_Stack_relock
  have G_Stack_relock := fn_mp (P := l.prog) (w := w) (mg := mg) (base := base) F_Stack_relock sc_Stack_relock (w_Stack_relock T c_Stack_put)
  have c_Stack_relock : MetM l.prog w K mg base cl 2 8 "relock" 1 p_Stack_relock gp_Stack_relock := ⟨⟨f_Stack_relock, _, ["self", "locked"], G_Stack_relock, ⟨a_Stack_relock, i_Stack_relock, k_Stack_relock⟩, (KBp.plain (F_Stack_relock.binds (ps := ["self", "locked"]) fun _ _ _ _ _ _ us hl => match us, hl with | [_, _], _ => rfl))⟩, ⟨pg8, hd8, po8, sa8⟩, by show ∀ z ∈ fl_8, z ≠ "relock"; decide +kernel⟩
  have F_System_locked_items := fun_mk (st := s_System_locked_items) l_System_locked_items c_System_locked_items_ k_System_locked_items
  have G_System_locked_items := fn_mp (P := l.prog) (w := w) (mg := mg) (base := base) F_System_locked_items sc_System_locked_items (w_System_locked_items T)
  have c_System_locked_items : MetM l.prog w K mg base cl 1 9 "locked_items" 0 p_System_locked_items gp_System_locked_items := ⟨⟨f_System_locked_items, _, ["self"], G_System_locked_items, ⟨a_System_locked_items, i_System_locked_items, k_System_locked_items⟩, (KBp.plain (F_System_locked_items.binds (ps := ["self"]) fun _ _ _ _ _ _ us hl => match us, hl with | [_], _ => rfl))⟩, ⟨pg9, hd9, po9, sa9⟩, by show ∀ z ∈ fl_9, z ≠ "locked_items"; decide +kernel⟩
  have F_System_locked_pages := fun_mk (st := s_System_locked_pages) l_System_locked_pages c_System_locked_pages_ k_System_locked_pages
  have G_System_locked_pages := fn_mp (P := l.prog) (w := w) (mg := mg) (base := base) F_System_locked_pages sc_System_locked_pages (w_System_locked_pages T)
  have c_System_locked_pages : MetM l.prog w K mg base cl 1 9 "locked_pages" 0 p_System_locked_pages gp_System_locked_pages := ⟨⟨f_System_locked_pages, _, ["self"], G_System_locked_pages, ⟨a_System_locked_pages, i_System_locked_pages, k_System_locked_pages⟩, (KBp.plain (F_System_locked_pages.binds (ps := ["self"]) fun _ _ _ _ _ _ us hl => match us, hl with | [_], _ => rfl))⟩, ⟨pg9, hd9, po9, sa9⟩, by show ∀ z ∈ fl_9, z ≠ "locked_pages"; decide +kernel⟩
  have F_System_settle := fun_mk (st := s_System_settle) l_System_settle c_System_settle_ k_System_settle
  have G_System_settle := fn_mp (P := l.prog) (w := w) (mg := mg) (base := base) F_System_settle sc_System_settle (w_System_settle T c_Stack_relock c_System_locked_items c_System_locked_pages)
  have c_System_settle : MetM l.prog w K mg base cl 3 9 "settle" 0 p_System_settle gp_System_settle := ⟨⟨f_System_settle, _, ["self"], G_System_settle, ⟨a_System_settle, i_System_settle, k_System_settle⟩, (KBp.plain (F_System_settle.binds (ps := ["self"]) fun _ _ _ _ _ _ us hl => match us, hl with | [_], _ => rfl))⟩, ⟨pg9, hd9, po9, sa9⟩, by show ∀ z ∈ fl_9, z ≠ "settle"; decide +kernel⟩
  have F_sorted_pages := fun_mk (st := s_sorted_pages) l_sorted_pages c_sorted_pages_ k_sorted_pages
  have G_sorted_pages := fn_mp (P := l.prog) (w := w) (mg := mg) (base := base) F_sorted_pages sc_sorted_pages (w_sorted_pages T)
  have c_sorted_pages : CalM l.prog w K mg base cl 1 "sorted_pages" 1 [] p_sorted_pages gp_sorted_pages := ⟨f_sorted_pages, _, ["space"], G_sorted_pages, PySem.W.mg_of X G a_sorted_pages, k_sorted_pages, (KBp.plain (F_sorted_pages.binds (ps := ["space"]) fun _ _ _ _ _ _ us hl => match us, hl with | [_], _ => rfl))⟩
  have F_places := fun_mk (st := s_places) l_places c_places_ k_places
  have G_places := fn_mp (P := l.prog) (w := w) (mg := mg) (base := base) F_places sc_places (w_places T c_sorted_pages)
  have c_places : CalM l.prog w K mg base cl 2 "places" 1 [] p_places gp_places := ⟨f_places, _, ["system"], G_places, PySem.W.mg_of X G a_places, k_places, (KBp.plain (F_places.binds (ps := ["system"]) fun _ _ _ _ _ _ us hl => match us, hl with | [_], _ => rfl))⟩
  have F_tidy := fun_mk (st := s_tidy) l_tidy c_tidy_ k_tidy
  have G_tidy := fn_mp (P := l.prog) (w := w) (mg := mg) (base := base) F_tidy sc_tidy (w_tidy T c_System_settle c_places)
  have c_tidy : CalM l.prog w K mg base cl 4 "tidy" 1 [] p_tidy gp_tidy := ⟨f_tidy, _, ["system"], G_tidy, PySem.W.mg_of X G a_tidy, k_tidy, (KBp.plain (F_tidy.binds (ps := ["system"]) fun _ _ _ _ _ _ us hl => match us, hl with | [_], _ => rfl))⟩
  have F_System_done := fun_mk (st := s_System_done) l_System_done c_System_done_ k_System_done
  have G_System_done := fn_mp (P := l.prog) (w := w) (mg := mg) (base := base) F_System_done sc_System_done (w_System_done T c_tidy)
  have c_System_done : MetM l.prog w K mg base cl 5 9 "done" 0 p_System_done gp_System_done := ⟨⟨f_System_done, _, ["self"], G_System_done, ⟨a_System_done, i_System_done, k_System_done⟩, (KBp.plain (F_System_done.binds (ps := ["self"]) fun _ _ _ _ _ _ us hl => match us, hl with | [_], _ => rfl))⟩, ⟨pg9, hd9, po9, sa9⟩, by show ∀ z ∈ fl_9, z ≠ "done"; decide +kernel⟩
  have G_check_charge := fn_mpD (P := l.prog) (w := w) (mg := mg) (base := base) l_check_charge c_check_charge_ sc_check_charge (w_check_charge T)
  have D_check_charge : FunD K "check_charge" "check_charge" (defArgs s_check_charge) (defBody s_check_charge) (defScope s_check_charge) [.non] [] f_check_charge _ := ⟨⟨_, _, _, _, _, _, _, _, _, _, rfl, l_check_charge, c_check_charge_, .inr ⟨by decide, T_check_charge, _, [.none], _, rfl, d_check_charge, rfl, (.cons rfl .nil)⟩, .inl rfl⟩, k_check_charge⟩
  have c_check_charge_d2 : CalM l.prog w K mg base cl 1 "check_charge" 2 [] p_check_charge gp_check_charge_d2 := ⟨f_check_charge, _, ["system", "spaces", "sizes"], G_check_charge, PySem.W.mg_of X G a_check_charge, k_check_charge, (kbp_dflt 0 D_check_charge (by decide) (fun _ _ => (.cons (.non) .nil)) rfl fun _ _ _ _ _ _ _ us its h1 h2 => match us, its, h1, h2 with | [_, _], [_], _, _ => ⟨_, rfl, rfl⟩)⟩
  have F_check_rights := fun_mk (st := s_check_rights) l_check_rights c_check_rights_ k_check_rights
  have G_check_rights := fn_mp (P := l.prog) (w := w) (mg := mg) (base := base) F_check_rights sc_check_rights (w_check_rights T x_NoPages)
  have c_check_rights : CalM l.prog w K mg base cl 3 "check_rights" 1 [] p_check_rights gp_check_rights := ⟨f_check_rights, _, ["rights"], G_check_rights, PySem.W.mg_of X G a_check_rights, k_check_rights, (KBp.plain (F_check_rights.binds (ps := ["rights"]) fun _ _ _ _ _ _ us hl => match us, hl with | [_], _ => rfl))⟩
  have F_is_name := fun_mk (st := s_is_name) l_is_name c_is_name_ k_is_name
  have G_is_name := fn_mp (P := l.prog) (w := w) (mg := mg) (base := base) F_is_name sc_is_name (w_is_name T)
  have c_is_name : CalM l.prog w K mg base cl 1 "is_name" 1 [] p_is_name gp_is_name := ⟨f_is_name, _, ["thing"], G_is_name, PySem.W.mg_of X G a_is_name, k_is_name, (KBp.plain (F_is_name.binds (ps := ["thing"]) fun _ _ _ _ _ _ us hl => match us, hl with | [_], _ => rfl))⟩
  have F_check_source := fun_mk (st := s_check_source) l_check_source c_check_source_ k_check_source
  have G_check_source := fn_mp (P := l.prog) (w := w) (mg := mg) (base := base) F_check_source sc_check_source (w_check_source T c_is_integer c_is_name x_NoFile x_NoPages)
  have c_check_source : CalM l.prog w K mg base cl 3 "check_source" 3 [] p_check_source gp_check_source := ⟨f_check_source, _, ["system", "source", "shared"], G_check_source, PySem.W.mg_of X G a_check_source, k_check_source, (KBp.plain (F_check_source.binds (ps := ["system", "source", "shared"]) fun _ _ _ _ _ _ us hl => match us, hl with | [_, _, _], _ => rfl))⟩
  have F_place_for := fun_mk (st := s_place_for) l_place_for c_place_for_ k_place_for
  have G_place_for := fn_mp (P := l.prog) (w := w) (mg := mg) (base := base) F_place_for sc_place_for (w_place_for T c_gap_in c_is_between x_NoPages)
  have c_place_for : CalM l.prog w K mg base cl 3 "place_for" 3 [] p_place_for gp_place_for := ⟨f_place_for, _, ["space", "count", "at"], G_place_for, PySem.W.mg_of X G a_place_for, k_place_for, (KBp.plain (F_place_for.binds (ps := ["space", "count", "at"]) fun _ _ _ _ _ _ us hl => match us, hl with | [_, _, _], _ => rfl))⟩
  have F_let_go := fun_mk (st := s_let_go) l_let_go c_let_go_ k_let_go
  have G_let_go := fn_mp (P := l.prog) (w := w) (mg := mg) (base := base) F_let_go sc_let_go (w_let_go T)
  have c_let_go : CalM l.prog w K mg base cl 1 "let_go" 2 [] p_let_go gp_let_go := ⟨f_let_go, _, ["system", "place"], G_let_go, PySem.W.mg_of X G a_let_go, k_let_go, (KBp.plain (F_let_go.binds (ps := ["system", "place"]) fun _ _ _ _ _ _ us hl => match us, hl with | [_, _], _ => rfl))⟩
  have F_remove := fun_mk (st := s_remove) l_remove c_remove_ k_remove
  have G_remove := fn_mp (P := l.prog) (w := w) (mg := mg) (base := base) F_remove sc_remove (w_remove T c_let_go)
  have c_remove : CalM l.prog w K mg base cl 2 "remove" 2 [] p_remove gp_remove := ⟨f_remove, _, ["system", "place"], G_remove, PySem.W.mg_of X G a_remove, k_remove, (KBp.plain (F_remove.binds (ps := ["system", "place"]) fun _ _ _ _ _ _ us hl => match us, hl with | [_, _], _ => rfl))⟩
  have G_map_pages := fn_mpD (P := l.prog) (w := w) (mg := mg) (base := base) l_map_pages c_map_pages_ sc_map_pages (w_map_pages T c_Mapped___init___kstamp c_System_done c_check_charge_d2 c_check_process c_check_rights c_check_source c_is_between c_place_for c_remove x_NoPages)
  have D_map_pages : FunD K "map_pages" "map_pages" (defArgs s_map_pages) (defBody s_map_pages) (defScope s_map_pages) [] [("rights", .str "rw"), ("shared", .bl false), ("source", .non), ("index", .int 0), ("at", .non)] f_map_pages _ := ⟨⟨_, _, _, _, _, _, _, _, _, _, rfl, l_map_pages, c_map_pages_, .inl ⟨rfl, rfl⟩, .inr ⟨D_map_pages, rfl, (all_cons ⟨_, w_map_pages_rights, ⟨_, rfl⟩⟩ (all_cons ⟨_, w_map_pages_shared, rfl⟩ (all_cons ⟨_, w_map_pages_source, rfl⟩ (all_cons ⟨_, w_map_pages_index, ⟨_, rfl⟩⟩ (all_cons ⟨_, w_map_pages_at, rfl⟩ all_nil)))))⟩⟩, k_map_pages⟩
  have c_map_pages_k0 : CalM l.prog w K mg base cl 6 "map_pages" 3 [] p_map_pages gp_map_pages_k0 := ⟨f_map_pages, _, ["system", "process", "count", "rights", "shared", "source", "index", "at"], G_map_pages, PySem.W.mg_of X G a_map_pages, k_map_pages, (kbp_kw0 D_map_pages (by decide) (fun _ _ => (.cons (.str "rw") (.cons (.bl false) (.cons (.non) (.cons (.int 0) (.cons (.non) .nil)))))) rfl fun _ _ _ _ _ _ us mv h1 h2 => match us, mv, h1, h2 with | [_, _, _], [_, _, _, _, _], _, _ => ⟨_, _, _, _, _, _, rfl, rfl, ⟨_, _, _, _, _, _, rfl, rfl, ⟨_, _, _, _, _, _, rfl, rfl, ⟨_, _, _, _, _, _, rfl, rfl, ⟨_, _, _, _, _, _, rfl, rfl, rfl⟩⟩⟩⟩⟩)⟩
  have c_map_pages_kat : CalM l.prog w K mg base cl 6 "map_pages" 3 ["at"] p_map_pages gp_map_pages_kat := ⟨f_map_pages, _, ["system", "process", "count", "rights", "shared", "source", "index", "at"], G_map_pages, PySem.W.mg_of X G a_map_pages, k_map_pages, (kbp_kwL (mk := [("rights", .str "rw"), ("shared", .bl false), ("source", .non), ("index", .int 0)]) D_map_pages (by decide) (all_cons List.mem_cons_self (all_cons (List.mem_cons_of_mem _ List.mem_cons_self) (all_cons (List.mem_cons_of_mem _ (List.mem_cons_of_mem _ List.mem_cons_self)) (all_cons (List.mem_cons_of_mem _ (List.mem_cons_of_mem _ (List.mem_cons_of_mem _ List.mem_cons_self))) all_nil)))) (fun _ _ => (.cons (.str "rw") (.cons (.bl false) (.cons (.non) (.cons (.int 0) .nil))))) rfl fun _ _ _ _ _ _ us mv ws h1 h2 h3 => match us, mv, ws, h1, h2, h3 with | [_, _, _], [_, _, _, _], [_], _, _, _ => ⟨_, _, _, _, _, _, rfl, rfl, ⟨_, _, _, _, _, _, rfl, rfl, ⟨_, _, _, _, _, _, rfl, rfl, ⟨_, _, _, _, _, _, rfl, rfl, rfl⟩⟩⟩⟩)⟩
  have F_Mapped_attributes := fun_mk (st := s_Mapped_attributes) l_Mapped_attributes c_Mapped_attributes_ k_Mapped_attributes
  have G_Mapped_attributes := fn_mp (P := l.prog) (w := w) (mg := mg) (base := base) F_Mapped_attributes sc_Mapped_attributes (w_Mapped_attributes T)
  have c_Mapped_attributes : MetM l.prog w K mg base cl 1 6 "attributes" 0 p_Mapped_attributes gp_Mapped_attributes := ⟨⟨f_Mapped_attributes, _, ["self"], G_Mapped_attributes, ⟨a_Mapped_attributes, i_Mapped_attributes, k_Mapped_attributes⟩, (KBp.plain (F_Mapped_attributes.binds (ps := ["self"]) fun _ _ _ _ _ _ us hl => match us, hl with | [_], _ => rfl))⟩, ⟨pg6, hd6, po6, sa6⟩, by show ∀ z ∈ fl_6, z ≠ "attributes"; decide +kernel⟩
  have F_follows := fun_mk (st := s_follows) l_follows c_follows_ k_follows
  have G_follows := fn_mp (P := l.prog) (w := w) (mg := mg) (base := base) F_follows sc_follows (w_follows T c_Mapped_attributes)
  have c_follows : CalM l.prog w K mg base cl 2 "follows" 2 [] p_follows gp_follows := ⟨f_follows, _, ["one", "other"], G_follows, PySem.W.mg_of X G a_follows, k_follows, (KBp.plain (F_follows.binds (ps := ["one", "other"]) fun _ _ _ _ _ _ us hl => match us, hl with | [_, _], _ => rfl))⟩
  have F_regions := fun_mk (st := s_regions) l_regions c_regions_ k_regions
  have G_regions := fn_mp (P := l.prog) (w := w) (mg := mg) (base := base) F_regions sc_regions (w_regions T c_check_process c_follows c_sorted_pages)
  have c_regions : CalM l.prog w K mg base cl 4 "regions" 2 [] p_regions gp_regions := ⟨f_regions, _, ["system", "process"], G_regions, PySem.W.mg_of X G a_regions, k_regions, (KBp.plain (F_regions.binds (ps := ["system", "process"]) fun _ _ _ _ _ _ us hl => match us, hl with | [_, _], _ => rfl))⟩
  have F_widest := fun_mk (st := s_widest) l_widest c_widest_ k_widest
  have G_widest := fn_mp (P := l.prog) (w := w) (mg := mg) (base := base) F_widest sc_widest (w_widest T c_check_process)
  have c_widest : CalM l.prog w K mg base cl 4 "widest" 2 [] p_widest gp_widest := ⟨f_widest, _, ["system", "process"], G_widest, PySem.W.mg_of X G a_widest, k_widest, (KBp.plain (F_widest.binds (ps := ["system", "process"]) fun _ _ _ _ _ _ us hl => match us, hl with | [_, _], _ => rfl))⟩
  have G__law_refused := fn_mpA (P := l.prog) (w := w) (mg := mg) (base := base) l__law_refused c__law_refused_ sc__law_refused (w__law_refused T c__law_one c_gap c_map_pages_k0 c_regions c_widest said__law_said ⟨TB (c__law_refused, P__law_refused) (by simp), by simp [cl], (all_cons (fun _ => rfl) (all_cons (fun h => absurd h.symm ne__law_refused_law) all_nil))⟩)
  have c__law_refused : CalM l.prog w K mg base cl 9 "_law_refused" 3 [] p__law_refused gp__law_refused := ⟨f__law_refused, _, ["well", "system", "process"], G__law_refused, PySem.W.mg_of X G a__law_refused, k__law_refused, (KBp.plain ((fun_mk (st := s__law_refused) l__law_refused c__law_refused_ k__law_refused).binds (ps := ["well", "system", "process"]) fun _ _ _ _ _ _ us hl => match us, hl with | [_, _, _], _ => rfl))⟩
  have F__law_well := fun_mk (st := s__law_well) l__law_well c__law_well_ k__law_well
  have G__law_well := fn_mp (P := l.prog) (w := w) (mg := mg) (base := base) F__law_well sc__law_well (w__law_well T)
  have c__law_well : CalM l.prog w K mg base cl 1 "_law_well" 1 [] p__law_well gp__law_well := ⟨f__law_well, _, ["cell"], G__law_well, PySem.W.mg_of X G a__law_well, k__law_well, (KBp.plain (F__law_well.binds (ps := ["cell"]) fun _ _ _ _ _ _ us hl => match us, hl with | [_], _ => rfl))⟩
  have F__law_widest := fun_mk (st := s__law_widest) l__law_widest c__law_widest_ k__law_widest
  have G__law_widest := fn_mp (P := l.prog) (w := w) (mg := mg) (base := base) F__law_widest sc__law_widest (w__law_widest T)
  have c__law_widest : CalM l.prog w K mg base cl 1 "_law_widest" 1 [] p__law_widest gp__law_widest := ⟨f__law_widest, _, ["space"], G__law_widest, PySem.W.mg_of X G a__law_widest, k__law_widest, (KBp.plain (F__law_widest.binds (ps := ["space"]) fun _ _ _ _ _ _ us hl => match us, hl with | [_], _ => rfl))⟩
  have F_new_process := fun_mk (st := s_new_process) l_new_process c_new_process_ k_new_process
  have G_new_process := fn_mp (P := l.prog) (w := w) (mg := mg) (base := base) F_new_process sc_new_process (w_new_process T)
  have c_new_process : CalM l.prog w K mg base cl 1 "new_process" 1 [] p_new_process gp_new_process := ⟨f_new_process, _, ["system"], G_new_process, PySem.W.mg_of X G a_new_process, k_new_process, (KBp.plain (F_new_process.binds (ps := ["system"]) fun _ _ _ _ _ _ us hl => match us, hl with | [_], _ => rfl))⟩
  have F_spawn := fun_mk (st := s_spawn) l_spawn c_spawn_ k_spawn
  have G_spawn := fn_mp (P := l.prog) (w := w) (mg := mg) (base := base) F_spawn sc_spawn (w_spawn T c_System_done c_new_process)
  have c_spawn : CalM l.prog w K mg base cl 6 "spawn" 1 [] p_spawn gp_spawn := ⟨f_spawn, _, ["system"], G_spawn, PySem.W.mg_of X G a_spawn, k_spawn, (KBp.plain (F_spawn.binds (ps := ["system"]) fun _ _ _ _ _ _ us hl => match us, hl with | [_], _ => rfl))⟩
  have F_check_range := fun_mk (st := s_check_range) l_check_range c_check_range_ k_check_range
  have G_check_range := fn_mp (P := l.prog) (w := w) (mg := mg) (base := base) F_check_range sc_check_range (w_check_range T c_is_between x_NoPages)
  have c_check_range : CalM l.prog w K mg base cl 3 "check_range" 2 [] p_check_range gp_check_range := ⟨f_check_range, _, ["first", "count"], G_check_range, PySem.W.mg_of X G a_check_range, k_check_range, (KBp.plain (F_check_range.binds (ps := ["first", "count"]) fun _ _ _ _ _ _ us hl => match us, hl with | [_, _], _ => rfl))⟩
  have F_unmap := fun_mk (st := s_unmap) l_unmap c_unmap_ k_unmap
  have G_unmap := fn_mp (P := l.prog) (w := w) (mg := mg) (base := base) F_unmap sc_unmap (w_unmap T c_System_done c_check_process c_check_range c_remove)
  have c_unmap : CalM l.prog w K mg base cl 6 "unmap" 4 [] p_unmap gp_unmap := ⟨f_unmap, _, ["system", "process", "first", "count"], G_unmap, PySem.W.mg_of X G a_unmap, k_unmap, (KBp.plain (F_unmap.binds (ps := ["system", "process", "first", "count"]) fun _ _ _ _ _ _ us hl => match us, hl with | [_, _, _, _], _ => rfl))⟩
  exact fn_law l_law c_law_ sc_law (w_law T c_System___init___k0 c__law_draw c__law_fits c__law_one c__law_refused c__law_well c__law_widest c_gap c_map_pages_k0 c_map_pages_kat c_spawn c_unmap c_widest said__law_said ⟨TB (c_law, P_law) (by simp), by simp [cl], (all_cons (fun h => absurd h ne__law_refused_law) (all_cons (fun _ => rfl) all_nil))⟩)
end LW
set_option linter.all false
set_option maxRecDepth 100000
set_option maxHeartbeats 4000000
namespace LW
open MP PySem L2
theorem draw1 {st : Sto} {n : Nat} {a b c many : Int} (h : st.get n = some (.lst [.int a, .int b, .int c])) (ha : 0 < a) (hm : 0 < many) (hm2 : many < 1073741824) :
    p__law_draw [.ref n, .int many] st = .ok (.int (a % many)) (st.set n (.lst [.int (a / many), .int b, .int c])) := by
  unfold p__law_draw runB b__law_draw
  simp [sSeq, sIf, mTru, mOp, mIx, mVar, mC, slots, Res.bind, Res.toS, ResS.seq, h, oGt, opII, truP, outV, ha, sSet, mB, mCons, mNil, gInt, oMod, hm, sSetIx, oDiv, cDiv, hm2, sRet, ixP, atI, ixN, setP]
/-- what is left as it was: all but n -/
structure But (n : Nat) (st st' : Sto) : Prop where
  nx : st.nx ≤ st'.nx
  eq : ∀ m, m < st.nx → m ≠ n → st'.get m = st.get m
theorem get_set_same {st : Sto} {n : Nat} {o o' : PO} (h : st.get n = some o) : (st.set n o').get n = some o' := by
  rw [Sto.get_set, if_pos rfl, h]; rfl
theorem get_add_old {st : Sto} {n : Nat} {o o' : PO} (h : st.get n = some o) : (st.add o').get n = some o := by
  rw [Sto.get_add, if_neg (Nat.ne_of_lt (Sto.lt_nx h))]; exact h
theorem get_add_new {st : Sto} {o' : PO} : (st.add o').get st.nx = some o' := by
  rw [Sto.get_add, if_pos rfl]
theorem But.refl {n : Nat} {st : Sto} : But n st st := ⟨Nat.le_refl _, fun _ _ _ => rfl⟩
theorem But.trans {n : Nat} {s1 s2 s3 : Sto} (h : But n s1 s2) (k : But n s2 s3) : But n s1 s3 := ⟨Nat.le_trans h.nx k.nx, fun m h1 h2 => (k.eq m (Nat.lt_of_lt_of_le h1 h.nx) h2).trans (h.eq m h1 h2)⟩
theorem But.set {n : Nat} {st : Sto} {o : PO} : But n st (st.set n o) := ⟨by rw [Sto.nx_set]; exact Nat.le_refl _, fun m _ h => by rw [Sto.get_set, if_neg h]⟩
theorem But.add {n : Nat} {st : Sto} {o : PO} : But n st (st.add o) := ⟨by rw [Sto.nx_add]; omega, fun m h1 _ => by rw [Sto.get_add, if_neg (Nat.ne_of_lt h1)]⟩
theorem draw2 {st : Sto} {n : Nat} {a b c many : Int} (h : st.get n = some (.lst [.int a, .int b, .int c])) (ha : ¬ 0 < a) (hb : 0 ≤ b) (hb2 : b < 2147483647) (hc : 0 ≤ c) (hc2 : c < 1099511627776) (hm : 0 < many) (hm2 : many < 1073741824) :
    ∃ d st', p__law_draw [.ref n, .int many] st = .ok (.int d) st' ∧ 0 ≤ d ∧ d < many ∧ st'.get n = some (.lst [.int a, .int b, .int (c + 1)]) ∧ But n st st' := by
  obtain ⟨k, hk, hk7⟩ : ∃ k : Nat, (c + 1) % 7 = (k : Int) ∧ k < 7 := ⟨((c + 1) % 7).toNat, by omega, by omega⟩
  have h1 : (st.set n (.lst [.int a, .int b, .int (c + 1)])).get n = some (.lst [.int a, .int b, .int (c + 1)]) := get_set_same h
  have key : ∀ p : Int, 0 < p → p ≤ 2147483647 → ([.int 2147483647, .int 2147483629, .int 2147483587, .int 2147483579, .int 2147483563, .int 2147483549, .int 2147483543] : List PV)[k]? = some (.int p) →
      ∃ d st', p__law_draw [.ref n, .int many] st = .ok (.int d) st' ∧ 0 ≤ d ∧ d < many ∧ st'.get n = some (.lst [.int a, .int b, .int (c + 1)]) ∧ But n st st' := by
    intro p hp hp2 hpk
    have e1 : ∀ x : Int, 0 ≤ x % p := fun x => Int.emod_nonneg _ (by omega)
    have e2 : ∀ x : Int, x % p < p := fun x => Int.emod_lt_of_pos _ hp
    generalize hL : ([.int 2147483647, .int 2147483629, .int 2147483587, .int 2147483579, .int 2147483563, .int 2147483549, .int 2147483543] : List PV) = L at hpk
    have hLl : L.length = 7 := by rw [← hL]; rfl
    refine ⟨((((b + 7919 * (c + 1) + 1) ^ 5 % p + (c + 1)) * ((b + 7919 * (c + 1) + 1) ^ 5 % p / 1009 + 69621) % p) / 7) % many, (st.set n (.lst [.int a, .int b, .int (c + 1)])).add (.lst L), ?_, Int.emod_nonneg _ (by omega), Int.emod_lt_of_pos _ hm, get_add_old h1, But.set.trans But.add⟩
    have h2 : ((st.set n (.lst [.int a, .int b, .int (c + 1)])).add (.lst L)).get n = some (.lst [.int a, .int b, .int (c + 1)]) := get_add_old h1
    have h3 : ((st.set n (.lst [.int a, .int b, .int (c + 1)])).add (.lst L)).get (st.set n (.lst [.int a, .int b, .int (c + 1)])).nx = some (.lst L) := get_add_new
    have c1 : cPow (b + 7919 * (c + 1) + 1) 5 = true := by
      unfold cPow
      simp
      omega
    have c2 : cMul 7919 (c + 1) = true := by unfold cMul; simp
    have c3 : cMul ((b + 7919 * (c + 1) + 1) ^ 5 % p + (c + 1)) ((b + 7919 * (c + 1) + 1) ^ 5 % p / 1009 + 69621) = true := by
      have := e1 ((b + 7919 * (c + 1) + 1) ^ 5)
      have := e2 ((b + 7919 * (c + 1) + 1) ^ 5)
      generalize (b + 7919 * (c + 1) + 1) ^ 5 % p = z at *
      unfold cMul
      simp
      omega
    have hg : ∀ (q : k < L.length), L[k] = PV.int p := fun q => by
      have := hpk
      rw [List.getElem?_eq_getElem q] at this
      exact Option.some.inj this
    have hk8 : (k : Int) < 7 := by omega
    unfold p__law_draw runB b__law_draw
    simp [hk8, hg, sSeq, sIf, mTru, mOp, mIx, mVar, mC, slots, Res.bind, Res.toS, ResS.seq, h, oGt, opII, truP, outV, ha, sSet, mB, mCons, mNil, gInt, oMod, hm, sSetIx, oDiv, cDiv, hm2, sRet, ixP, atI, ixN, setP, sSkip, oAdd, h1, mLst, mkNew, sz, hL, hLl, h2, h3, hk, hk7, hpk, hp, oMul, oMulI, oPow, c1, c2, c3]
  match k, hk7 with
  | 0, _ => exact key 2147483647 (by decide) (by decide) rfl
  | 1, _ => exact key 2147483629 (by decide) (by decide) rfl
  | 2, _ => exact key 2147483587 (by decide) (by decide) rfl
  | 3, _ => exact key 2147483579 (by decide) (by decide) rfl
  | 4, _ => exact key 2147483563 (by decide) (by decide) rfl
  | 5, _ => exact key 2147483549 (by decide) (by decide) rfl
  | 6, _ => exact key 2147483543 (by decide) (by decide) rfl
/-- a well, drawn from at most m times -/
def Well (st : Sto) (n : Nat) (m : Int) : Prop := ∃ a b c : Int, st.get n = some (.lst [.int a, .int b, .int c]) ∧ 0 ≤ b ∧ b < 2147483647 ∧ 0 ≤ c ∧ c ≤ m
theorem draw {st : Sto} {n : Nat} {m many : Int} (h : Well st n m) (hmm : m < 1099511627776) (hm : 0 < many) (hm2 : many < 1073741824) :
    ∃ d st', p__law_draw [.ref n, .int many] st = .ok (.int d) st' ∧ 0 ≤ d ∧ d < many ∧ Well st' n (m + 1) ∧ But n st st' := by
  obtain ⟨a, b, c, h1, h2, h3, h4, h5⟩ := h
  by_cases ha : 0 < a
  · exact ⟨_, _, draw1 h1 ha hm hm2, Int.emod_nonneg _ (by omega), Int.emod_lt_of_pos _ hm, ⟨_, b, c, get_set_same h1, h2, h3, h4, by omega⟩, But.set⟩
  · obtain ⟨d, st', e1, e2, e3, e4, e5⟩ := draw2 h1 ha h2 h3 h4 (by omega) hm hm2
    exact ⟨d, st', e1, e2, e3, ⟨a, b, c + 1, e4, h2, h3, by omega, by omega⟩, e5⟩
theorem one {st : Sto} {n l : Nat} {m : Int} {xs : List PV} (h : Well st n m) (hmm : m < 1099511627776) (hl : st.get l = some (.lst xs)) (hn : l ≠ n) (h0 : 0 < xs.length) (h1 : xs.length < 1073741824) :
    ∃ (j : Nat) (x : PV) (st' : Sto), xs[j]? = some x ∧ p__law_one [.ref n, .ref l] st = .ok x st' ∧ Well st' n (m + 1) ∧ But n st st' := by
  obtain ⟨d, st', e1, e2, e3, e4, e5⟩ := draw (many := (xs.length : Int)) h hmm (by omega) (by omega)
  obtain ⟨j, hj⟩ : ∃ j : Nat, d = (j : Int) := ⟨d.toNat, by omega⟩
  subst hj
  have hj2 : j < xs.length := by omega
  have hl2 : st'.get l = some (.lst xs) := (e5.eq l (Sto.lt_nx hl) hn).trans hl
  refine ⟨j, xs[j], st', List.getElem?_eq_getElem hj2, ?_, e4, e5⟩
  unfold p__law_one runB b__law_one
  simp [mIx, mVar, slots, Res.bind, Res.toS, outV, mB, mCons, mNil, gLen, lenP, sRet, ixP, atI, ixN, mCall, gp__law_draw, hl, e1, hl2, hj2, e3]
theorem well_new {st : Sto} {cell : Int} : ∃ st', p__law_well [.int cell] st = .ok (.ref st.nx) st' ∧ Well st' st.nx 0 ∧ ∀ n, But n st st' := by
  have hc : cMul cell (if 1000000000000000000 ≤ cell then 1 else 0) = true := by
    unfold cMul
    split <;> simp
  refine ⟨st.add (.lst [.int (cell * (if 1000000000000000000 ≤ cell then 1 else 0)), .int (cell % 2147483647), .int 0]), ?_, ⟨_, _, 0, get_add_new, Int.emod_nonneg _ (by decide), Int.emod_lt_of_pos _ (by decide), by decide, by decide⟩, fun n => But.add⟩
  unfold p__law_well runB b__law_well
  simp [mVar, slots, Res.bind, Res.toS, outV, mB, mCons, mNil, sRet, mLst, mOp, mC, gInt, oMul, oMulI, opII, oGe, oPow, cPow, oMod, mkNew, sz, hc]
end LW
set_option linter.all false
set_option maxRecDepth 100000
set_option maxHeartbeats 8000000
namespace LW
open MP PySem L2
structure SE where
  sp : Nat
  ob : Nat
  ct : Nat
  dk : Nat
  sk : Nat
  mem : Nat
  rw_ : Nat
  o : Nat → Nat
def sysF (E : SE) (step last : Int) : List (Str × PV) := [("frames", .non), ("slots", .non), ("strict", .bl false), ("spaces", .ref E.sp), ("objects", .ref E.ob), ("catalogue", .ref E.ct), ("disks", .ref E.dk), ("step", .int step), ("last_process", .int last), ("last_object", .int 0), ("last_item", .int 0), ("most_locked", .int 0), ("stack", .ref E.sk), ("memory", .ref E.mem)]
def stF (E : SE) : List (Str × PV) := [("row", .ref E.rw_), ("index", .ref (E.o 0)), ("locked", .int 0), ("has_crashed", .bl false), ("has_merged", .bl false), ("distances", .ref (E.o 1)), ("touched", .ref (E.o 2)), ("touches", .ref (E.o 3)), ("since", .ref (E.o 4)), ("outs", .ref (E.o 5)), ("backs", .ref (E.o 6)), ("backs_from", .ref (E.o 7)), ("slots", .ref (E.o 8)), ("dirty", .ref (E.o 9)), ("disks", .ref (E.o 10))]
def kv (al : List (Int × Nat)) : List (PV × PV) := al.map fun p => (.int p.1, .ref p.2)
structure Sys0 (st : Sto) (E : SE) (s : Nat) (step last : Int) (al : List (Int × Nat)) : Prop where
  a : st.get s = some (.ins 9 (sysF E step last))
  b : st.get E.sp = some (.dct (kv al) false)
  c : st.get E.ob = some (.dct [] false)
  d : st.get E.sk = some (.ins 8 (stF E))
  e : st.get E.rw_ = some (.lst [])
  ne : E.sp ≠ E.ob
  pw : (al.map (·.1)).Pairwise (· < ·)
  le : ∀ p ∈ al, 0 < p.1 ∧ p.1 ≤ last
  em : ∀ p ∈ al, st.get p.2 = some (.dct [] false) ∧ p.2 ≠ E.sp ∧ p.2 ≠ E.ob
theorem isi_b (b : Bool) (st : Sto) : gIsi [.bl b, .ty "bool"] st = some (.bl true, st) := by rfl
theorem new_stack {st : Sto} {n : Nat} (h : st.get n = some (.ins 8 [])) : ∃ E st', p_Stack___init__ [.ref n] st = .ok .non st' ∧ st'.get n = some (.ins 8 (stF E)) ∧ st'.get E.rw_ = some (.lst []) ∧ E.rw_ = st.nx ∧ But n st st' := by
  have hlt := Sto.lt_nx h
  have h1 : ∀ k, (n = st.nx + k) = False := fun k => by simp; omega
  have h2 : (n = st.nx) = False := by simp; omega
  have h3 : ∀ k, (st.nx + k = n) = False := fun k => by simp; omega
  have h4 : (st.nx = n) = False := by simp; omega
  unfold p_Stack___init__ runB b_Stack___init__
  simp (decide := true) [outV, mNil, Res.bind, slots, sSeq, mVar, mC, Res.toS, ResS.seq, sFldM, insOf, putP, mDict0, mkNew, mLst, sz, Sto.get_add, Sto.get_set, Sto.nx_set, Sto.nx_add, Nat.add_assoc, h, h1, h2, h3, h4]
  refine ⟨⟨0, 0, 0, 0, 0, 0, st.nx, fun i => match i with | 0 => st.nx + 1 | 1 => st.nx + 2 | 2 => st.nx + 3 | 3 => st.nx + 4 | 4 => st.nx + 5 | 5 => st.nx + 6 | 6 => st.nx + 7 | 7 => st.nx + 8 | 8 => st.nx + 9 | 9 => st.nx + 10 | _ => st.nx + 11⟩, ?_⟩
  refine ⟨rfl, ?_, rfl, ?_⟩
  · simp [h1, h2, h3, h4]
  · exact ⟨by simp [Sto.nx_set, Sto.nx_add]; omega, fun m q1 q2 => by
      have g1 : ∀ k, (m = st.nx + k) = False := fun k => by simp; omega
      have g2 : (m = st.nx) = False := by simp; omega
      simp [Sto.get_add, Sto.get_set, Sto.nx_set, Sto.nx_add, Nat.add_assoc, q2, g1, g2]⟩
theorem new_mem {st : Sto} {n : Nat} {x : PV} (h : st.get n = some (.ins 7 [])) : ∃ st', p_Memory___init__ [.ref n, x] st = .ok .non st' ∧ But n st st' := by
  have hlt := Sto.lt_nx h
  have h1 : ∀ k, (n = st.nx + k) = False := fun k => by simp; omega
  have h2 : (n = st.nx) = False := by simp; omega
  have h3 : ∀ k, (st.nx + k = n) = False := fun k => by simp; omega
  have h4 : (st.nx = n) = False := by simp; omega
  unfold p_Memory___init__ runB b_Memory___init__
  simp (decide := true) [outV, mNil, Res.bind, slots, sSeq, mVar, mC, Res.toS, ResS.seq, sFldM, insOf, putP, mDict0, mkNew, mLst, sz, Sto.get_add, Sto.get_set, Sto.nx_set, Sto.nx_add, Nat.add_assoc, h, h1, h2, h3, h4]
  exact ⟨by simp [Sto.nx_set, Sto.nx_add]; omega, fun m q1 q2 => by
      have g1 : ∀ k, (m = st.nx + k) = False := fun k => by simp; omega
      have g2 : (m = st.nx) = False := by simp; omega
      simp [Sto.get_add, Sto.get_set, Sto.nx_set, Sto.nx_add, Nat.add_assoc, q2, g1, g2]⟩
theorem make_stack {σ : Sl} {st : Sto} : ∃ E st', mMake 8 p_Stack___init__ gp_Stack___init__ mNil mNil σ st = .ok (.ref st.nx) st' ∧ st'.get st.nx = some (.ins 8 (stF E)) ∧ st'.get E.rw_ = some (.lst []) ∧ E.rw_ = st.nx + 1 ∧ ∀ n, But n st st' := by
  obtain ⟨E, st', e1, e2, e3, e4, e5⟩ := new_stack (st := st.add (.ins 8 [])) (n := st.nx) get_add_new
  refine ⟨E, st', ?_, e2, e3, by rw [e4, Sto.nx_add], fun n => ⟨by have := e5.nx; rw [Sto.nx_add] at this; omega, fun m h1 _ => ?_⟩⟩
  · simp [mMake, mNil, Res.bind, gp_Stack___init__, e1]
  · rw [e5.eq m (by rw [Sto.nx_add]; omega) (by omega), Sto.get_add, if_neg (by omega)]
theorem make_mem {σ : Sl} {st : Sto} {g : MEs} {x : PV} (hg : g σ st = .ok [x] st) : ∃ st', mMake 7 p_Memory___init__ gp_Memory___init__ g mNil σ st = .ok (.ref st.nx) st' ∧ ∀ n, But n st st' := by
  obtain ⟨st', e1, e5⟩ := new_mem (st := st.add (.ins 7 [])) (n := st.nx) (x := x) get_add_new
  refine ⟨st', ?_, fun n => ⟨by have := e5.nx; rw [Sto.nx_add] at this; omega, fun m h1 _ => ?_⟩⟩
  · simp [mMake, mNil, Res.bind, gp_Memory___init__, e1, hg]
  · rw [e5.eq m (by rw [Sto.nx_add]; omega) (by omega), Sto.get_add, if_neg (by omega)]
theorem sIf_f {t : MT} {f g : MS} {σ : Sl} {st : Sto} (h : t σ st = .ok false st) : sIf t f g σ st = g σ st := by unfold sIf; rw [h]; rfl
theorem sSeq_nx {f g : MS} {σ σ1 : Sl} {st st1 : Sto} (h : f σ st = .nx σ1 st1) : sSeq f g σ st = g σ1 st1 := by unfold sSeq; rw [h]; rfl
theorem fld_step {c n : Nat} {f : Str} {fe : ME} {σ : Sl} {st st2 : Sto} {y : PV} {fs : List (Str × PV)} (he : fe σ st = .ok y st2) (h0 : σ[0]? = some (some (.ref n))) (hg : st2.get n = some (.ins c fs)) (hl : fs.length < 900) :
    sFldM c f (mVar 0) fe σ st = .nx σ (st2.set n (.ins c (putP f y fs))) := by
  unfold sFldM
  simp [he, Res.toS, mVar, h0, insOf, hg, hl]
theorem init0 {st : Sto} {n : Nat} (R : MS) : ((sSeq (sIf (mAndT (mTru (mOp oNotN (mVar 1) (mC .non))) (mNotT (mTru (mCall p_is_between gp_is_between (mCons (mVar 1) (mCons (mC (.int 1)) (mCons (mC (.int 64)) mNil)))))))
    (sRaise1 1 "part" (mC (.str "frames")))
    sSkip)
    (sSeq (sIf (mAndT (mTru (mOp oNotN (mVar 2) (mC .non))) (mNotT (mTru (mCall p_is_between gp_is_between (mCons (mVar 2) (mCons (mC (.int 0)) (mCons (mC (.int 256)) mNil)))))))
    (sRaise1 1 "part" (mC (.str "slots")))
    sSkip)
    (sSeq (sIf (mOrT (mNotT (mTru (mB gIsi (mCons (mVar 3) (mCons (mC (.ty "bool")) mNil))))) (mAndT (mTru (mVar 3)) (mOrT (mTru (mOp oIsN (mVar 1) (mC .non))) (mTru (mOp oIsN (mVar 2) (mC .non))))))
    (sRaise1 1 "part" (mC (.str "strict")))
    sSkip)
    R))) : MS) [some (.ref n), some .non, some .non, some (.bl false)] st = R [some (.ref n), some .non, some .non, some (.bl false)] st := by
  rw [sSeq_nx (σ1 := [some (.ref n), some .non, some .non, some (.bl false)]) (st1 := st) (by rw [sIf_f (by rfl)]; rfl)]
  rw [sSeq_nx (σ1 := [some (.ref n), some .non, some .non, some (.bl false)]) (st1 := st) (by rw [sIf_f (by rfl)]; rfl)]
  rw [sSeq_nx (σ1 := [some (.ref n), some .non, some .non, some (.bl false)]) (st1 := st) (by rw [sIf_f (by rfl)]; rfl)]
end LW
set_option linter.all false
set_option maxRecDepth 100000
set_option maxHeartbeats 8000000
namespace LW
open MP PySem L2
theorem init1 {st : Sto} {n : Nat} {σ : Sl} (h : st.get n = some (.ins 9 [])) (hs : σ = [some (.ref n), some .non, some .non, some (.bl false)]) : ∃ st1, (∀ R : MS, ((sSeq (sFldM 9 "frames" (mVar 0) (mVar 1))
    (sSeq (sFldM 9 "slots" (mVar 0) (mVar 2))
    (sSeq (sFldM 9 "strict" (mVar 0) (mVar 3))
    (sSeq (sFldM 9 "spaces" (mVar 0) mDict0)
    (sSeq (sFldM 9 "objects" (mVar 0) mDict0)
    (sSeq (sFldM 9 "catalogue" (mVar 0) mDict0)
    (sSeq (sFldM 9 "disks" (mVar 0) mDict0)
    (sSeq (sFldM 9 "step" (mVar 0) (mC (.int 0)))
    (sSeq (sFldM 9 "last_process" (mVar 0) (mC (.int 0)))
    (sSeq (sFldM 9 "last_object" (mVar 0) (mC (.int 0)))
    (sSeq (sFldM 9 "last_item" (mVar 0) (mC (.int 0)))
    (sSeq (sFldM 9 "most_locked" (mVar 0) (mC (.int 0)))
    R)))))))))))) : MS) σ st = R σ st1) ∧
    st1.get n = some (.ins 9 [("frames", .non), ("slots", .non), ("strict", .bl false), ("spaces", .ref st.nx), ("objects", .ref (st.nx + 1)), ("catalogue", .ref (st.nx + 2)), ("disks", .ref (st.nx + 3)), ("step", .int 0), ("last_process", .int 0), ("last_object", .int 0), ("last_item", .int 0), ("most_locked", .int 0)]) ∧
    st1.get st.nx = some (.dct [] false) ∧ st1.get (st.nx + 1) = some (.dct [] false) ∧ st1.nx = st.nx + 4 ∧ But n st st1 := by
  have hlt := Sto.lt_nx h
  have h1 : ∀ k, (n = st.nx + k) = False := fun k => by simp; omega
  have h2 : (n = st.nx) = False := by simp; omega
  have h3 : ∀ k, (st.nx + k = n) = False := fun k => by simp; omega
  have h4 : (st.nx = n) = False := by simp; omega
  have i0 : σ[0]? = some (some (.ref n)) := by rw [hs]; rfl
  have i1 : σ[1]? = some (some .non) := by rw [hs]; rfl
  have i2 : σ[2]? = some (some .non) := by rw [hs]; rfl
  have i3 : σ[3]? = some (some (.bl false)) := by rw [hs]; rfl
  clear hs
  refine ⟨_, fun R => by
    simp (decide := true) [sSeq, mVar, mC, Res.toS, ResS.seq, sFldM, insOf, putP, mDict0, mkNew, Sto.get_add, Sto.get_set, Sto.nx_set, Sto.nx_add, Nat.add_assoc, h, h1, h2, h3, h4, i0, i1, i2, i3]
    rfl, ?_, ?_, ?_, ?_, ?_⟩
  · simp (decide := true) [Sto.get_add, Sto.get_set, Sto.nx_set, Sto.nx_add, Nat.add_assoc, h, h1, h2, h3, h4]
  · simp (decide := true) [Sto.get_add, Sto.get_set, Sto.nx_set, Sto.nx_add, Nat.add_assoc, h, h1, h2, h3, h4]
  · simp (decide := true) [Sto.get_add, Sto.get_set, Sto.nx_set, Sto.nx_add, Nat.add_assoc, h, h1, h2, h3, h4]
  · simp (decide := true) [Sto.get_add, Sto.get_set, Sto.nx_set, Sto.nx_add, Nat.add_assoc, h, h1, h2, h3, h4]
  · exact ⟨by simp [Sto.nx_set, Sto.nx_add]; omega, fun m q1 q2 => by
      have g1 : ∀ k, (m = st.nx + k) = False := fun k => by simp; omega
      have g2 : (m = st.nx) = False := by simp; omega
      simp [Sto.get_add, Sto.get_set, Sto.nx_set, Sto.nx_add, Nat.add_assoc, q2, g1, g2]⟩
theorem sys_new {σ : Sl} {st : Sto} : ∃ E st', mMake 9 p_System___init__ gp_System___init___k0 mNil mNil σ st = .ok (.ref st.nx) st' ∧ Sys0 st' E st.nx 0 0 [] ∧ E.sp = st.nx + 1 ∧ ∀ n, But n st st' := by
  have h0 : (st.add (.ins 9 [])).get st.nx = some (.ins 9 []) := get_add_new
  have n0 : (st.add (.ins 9 [])).nx = st.nx + 1 := Sto.nx_add _ _
  obtain ⟨st1, r1, g1, g2, g3, g4, b1⟩ := init1 (st := st.add (.ins 9 [])) (n := st.nx) (σ := [some (.ref st.nx), some .non, some .non, some (.bl false)]) h0 rfl
  rw [n0] at g1 g2 g3 g4
  obtain ⟨E1, st2, e2, k1, k2, k3, b2⟩ := make_stack (σ := [some (.ref st.nx), some .non, some .non, some (.bl false)]) (st := st1)
  have q1 := (b2 0).eq
  have l1 : st.nx < st1.nx := by omega
  have w1 : st2.get st.nx = st1.get st.nx := (b2 (st1.nx + 1)).eq _ l1 (by omega)
  have f1 := fld_step (f := "stack") (fe := mMake 8 p_Stack___init__ gp_Stack___init__ mNil mNil) (σ := [some (.ref st.nx), some .non, some .non, some (.bl false)]) e2 rfl (w1.trans g1) (by simp)
  obtain ⟨st4, e4, b4⟩ := make_mem (σ := [some (.ref st.nx), some .non, some .non, some (.bl false)]) (st := st2.set st.nx (.ins 9 (putP "stack" (.ref st1.nx) [("frames", .non), ("slots", .non), ("strict", .bl false), ("spaces", .ref (st.nx + 1)), ("objects", .ref (st.nx + 1 + 1)), ("catalogue", .ref (st.nx + 1 + 2)), ("disks", .ref (st.nx + 1 + 3)), ("step", .int 0), ("last_process", .int 0), ("last_object", .int 0), ("last_item", .int 0), ("most_locked", .int 0)]))) (g := mCons (mVar 0) mNil) (x := .ref st.nx) rfl
  have x2 := (b2 0).nx
  have x4 := (b4 0).nx
  rw [Sto.nx_set] at x4
  have w2 : st4.get st.nx = _ := ((b4 (st2.nx + 1)).eq st.nx (by rw [Sto.nx_set]; omega) (by omega)).trans (get_set_same (w1.trans g1))
  have f2 := fld_step (f := "memory") (fe := mMake 7 p_Memory___init__ gp_Memory___init__ (mCons (mVar 0) mNil) mNil) (σ := [some (.ref st.nx), some .non, some .non, some (.bl false)]) e4 rfl w2 (by simp (decide := true) [putP])
  rw [show ∀ l, putP "memory" (.ref (st2.set st.nx (.ins 9 l)).nx) (putP "stack" (.ref st1.nx) [("frames", .non), ("slots", .non), ("strict", .bl false), ("spaces", .ref (st.nx + 1)), ("objects", .ref (st.nx + 1 + 1)), ("catalogue", .ref (st.nx + 1 + 2)), ("disks", .ref (st.nx + 1 + 3)), ("step", .int 0), ("last_process", .int 0), ("last_object", .int 0), ("last_item", .int 0), ("most_locked", .int 0)]) = sysF { sp := st.nx + 1, ob := st.nx + 1 + 1, ct := st.nx + 1 + 2, dk := st.nx + 1 + 3, sk := st1.nx, mem := st2.nx, rw_ := E1.rw_, o := E1.o } 0 0 from fun l => by simp (decide := true) [putP, sysF, Sto.nx_set]] at f2
  have old : ∀ m o, m ≠ st.nx → st1.get m = some o → st4.get m = some o := fun m o hm h => by
    have lm := Sto.lt_nx h
    rw [(b4 (st2.nx + 1)).eq m (by rw [Sto.nx_set]; omega) (by omega), Sto.get_set, if_neg hm, (b2 (st1.nx + 1)).eq m lm (by omega)]
    exact h
  have old2 : ∀ m o, m ≠ st.nx → st2.get m = some o → st4.get m = some o := fun m o hm h => by
    have lm := Sto.lt_nx h
    rw [(b4 (st2.nx + 1)).eq m (by rw [Sto.nx_set]; omega) (by omega), Sto.get_set, if_neg hm]
    exact h
  refine ⟨{ sp := st.nx + 1, ob := st.nx + 1 + 1, ct := st.nx + 1 + 2, dk := st.nx + 1 + 3, sk := st1.nx, mem := st2.nx, rw_ := E1.rw_, o := E1.o }, st4.set st.nx (.ins 9 (sysF { sp := st.nx + 1, ob := st.nx + 1 + 1, ct := st.nx + 1 + 2, dk := st.nx + 1 + 3, sk := st1.nx, mem := st2.nx, rw_ := E1.rw_, o := E1.o } 0 0)), ?_, ⟨?_, ?_, ?_, ?_, ?_, by show st.nx + 1 ≠ st.nx + 1 + 1; omega, .nil, fun _ h => (nomatch h), fun _ h => (nomatch h)⟩, rfl, fun n => ⟨by rw [Sto.nx_set]; omega, fun m h1 h2 => ?_⟩⟩
  · unfold mMake
    have e : p_System___init__ [.ref st.nx, .non, .non, .bl false] (st.add (.ins 9 [])) = .ok .non (st4.set st.nx (.ins 9 (sysF { sp := st.nx + 1, ob := st.nx + 1 + 1, ct := st.nx + 1 + 2, dk := st.nx + 1 + 3, sk := st1.nx, mem := st2.nx, rw_ := E1.rw_, o := E1.o } 0 0))) := by
      unfold p_System___init__ runB b_System___init__
      rw [show slots 4 [.ref st.nx, .non, .non, .bl false] = [some (.ref st.nx), some .non, some .non, some (.bl false)] from rfl, init0, r1, sSeq_nx f1, f2]
      rfl
    simp [mNil, Res.bind, gp_System___init___k0, e]
  · exact get_set_same w2
  · rw [Sto.get_set, if_neg (by show ¬ st.nx + 1 = st.nx; omega)]
    exact old _ _ (by show ¬ st.nx + 1 = st.nx; omega) g2
  · rw [Sto.get_set, if_neg (by show ¬ st.nx + 1 + 1 = st.nx; omega)]
    exact old _ _ (by show ¬ st.nx + 1 + 1 = st.nx; omega) g3
  · rw [Sto.get_set, if_neg (by show ¬ st1.nx = st.nx; omega)]
    exact old2 _ _ (by show ¬ st1.nx = st.nx; omega) k1
  · rw [Sto.get_set, if_neg (by show ¬ E1.rw_ = st.nx; omega)]
    exact old2 _ _ (by show ¬ E1.rw_ = st.nx; omega) k2
  · rw [Sto.get_set, if_neg (by omega), (b4 (st2.nx + 1)).eq m (by rw [Sto.nx_set]; omega) (by omega), Sto.get_set, if_neg (by omega), (b2 (st1.nx + 1)).eq m (by omega) (by omega), b1.eq m (by omega) (by omega), Sto.get_add, if_neg (by omega)]
end LW
set_option linter.all false
set_option maxRecDepth 100000
set_option maxHeartbeats 8000000
namespace LW
open MP PySem L2
theorem sys_last (E : SE) (a b : Int) : (sysF E a b).lookup ("last_process" : Str) = some (.int b) := by rfl
theorem sys_spaces (E : SE) (a b : Int) : (sysF E a b).lookup ("spaces" : Str) = some (.ref E.sp) := by rfl
theorem sys_objects (E : SE) (a b : Int) : (sysF E a b).lookup ("objects" : Str) = some (.ref E.ob) := by rfl
theorem sys_stack (E : SE) (a b : Int) : (sysF E a b).lookup ("stack" : Str) = some (.ref E.sk) := by rfl
theorem sys_step (E : SE) (a b : Int) : (sysF E a b).lookup ("step" : Str) = some (.int a) := by rfl
theorem sys_strict (E : SE) (a b : Int) : (sysF E a b).lookup ("strict" : Str) = some (.bl false) := by rfl
theorem sys_most (E : SE) (a b : Int) : (sysF E a b).lookup ("most_locked" : Str) = some (.int 0) := by rfl
theorem sys_putLast (E : SE) (a b c : Int) : putP "last_process" (.int c) (sysF E a b) = sysF E a c := by simp (decide := true) [sysF, putP]
theorem sys_putStep (E : SE) (a b c : Int) : putP "step" (.int c) (sysF E a b) = sysF E c b := by simp (decide := true) [sysF, putP]
theorem sys_putMost (E : SE) (a b : Int) : putP "most_locked" (.int 0) (sysF E a b) = sysF E a b := by simp (decide := true) [sysF, putP]
theorem sys_len (E : SE) (a b : Int) : (sysF E a b).length < 900 := by simp [sysF]
theorem fld_get {c n : Nat} {f : Str} {i : Nat} {σ : Sl} {st : Sto} {fs : List (Str × PV)} {v : PV} (h0 : σ[i]? = some (some (.ref n))) (hg : st.get n = some (.ins c fs)) (hl : fs.lookup f = some v) : mFld c f (mVar i) σ st = .ok v st := by
  unfold mFld
  simp [mVar, h0, Res.bind, insOf, hg, hl]
theorem kv_fit (al : List (Int × Nat)) (i : Int) : kfit (kv al) false (.int i) = true := by
  cases al with
  | nil => rfl
  | cons p r => simp [kv, kfit, kindK]
theorem sortI_nil : sortI [] = [] := by unfold sortI; simp
theorem forGo_inv {gd : Gd} {g : MG} {b : MS} (P : Sl → Sto → Prop) (hc : ∀ σ st, P σ st → chk gd st = true) : ∀ (xs : List PV) (hs : ∀ x ∈ xs, ∀ σ st, P σ st → ∃ σ2 σ3 st3, g x σ = some σ2 ∧ b σ2 st = .nx σ3 st3 ∧ P σ3 st3) (σ : Sl) (st : Sto), P σ st → ∃ σ' st', forGo gd g b xs σ st = .nx σ' st' ∧ P σ' st'
  | [], _, σ, st, h => ⟨σ, st, by unfold forGo; rw [if_pos (hc σ st h)], h⟩
  | x :: xs, hs, σ, st, h => by
    obtain ⟨σ2, σ3, st3, e1, e2, h3⟩ := hs x List.mem_cons_self σ st h
    obtain ⟨σ', st', e, h'⟩ := forGo_inv P hc xs (fun y hy => hs y (List.mem_cons_of_mem _ hy)) σ3 st3 h3
    refine ⟨σ', st', ?_, h'⟩
    unfold forGo
    rw [if_pos (hc σ st h), e1]
    show (b σ2 st).loop _ = _
    rw [e2]
    exact e
structure Keep (st st' : Sto) : Prop where
  nx : st.nx ≤ st'.nx
  eq : ∀ m, m < st.nx → st'.get m = st.get m
theorem Keep.refl {st : Sto} : Keep st st := ⟨Nat.le_refl _, fun _ _ => rfl⟩
theorem Keep.trans {s1 s2 s3 : Sto} (h : Keep s1 s2) (k : Keep s2 s3) : Keep s1 s3 := ⟨Nat.le_trans h.nx k.nx, fun m h1 => (k.eq m (Nat.lt_of_lt_of_le h1 h.nx)).trans (h.eq m h1)⟩
theorem Keep.add {st : Sto} {o : PO} : Keep st (st.add o) := ⟨by rw [Sto.nx_add]; omega, fun m h1 => by rw [Sto.get_add, if_neg (Nat.ne_of_lt h1)]⟩
theorem Keep.get {st st' : Sto} (k : Keep st st') {m : Nat} {o : PO} (h : st.get m = some o) : st'.get m = some o := (k.eq m (Sto.lt_nx h)).trans h
structure Lkd (ds : List Nat) (st st2 : Sto) : Prop where
  nx : st2.nx = st.nx
  ot : ∀ m, m ∉ ds → st2.get m = st.get m
  on : ∀ d ∈ ds, ∀ kvs lk, st.get d = some (.dct kvs lk) → st2.get d = some (.dct kvs true)
theorem lockE_at {α : Type} {R : α → Sto → Prop} {f : Sto → Res α} : ∀ (ds : List Nat) (st : Sto), (∀ d ∈ ds, ∃ kvs lk, st.get d = some (.dct kvs lk)) → (∀ st2, Lkd ds st st2 → ∃ v st3, f st2 = .ok v st3 ∧ Keep st2 st3 ∧ R v st3) →
    (∀ v s n kvs, R v s → (∃ lk, s.get n = some (.dct kvs lk)) → R v (s.set n (.dct kvs false))) → ∃ v st3, lockE f ds st = .ok v st3 ∧ Keep st st3 ∧ R v st3
  | [], st, _, hf, _ => by
    obtain ⟨v, st3, e, k, r⟩ := hf st ⟨rfl, fun _ _ => rfl, fun _ h => (nomatch h)⟩
    exact ⟨v, st3, by unfold lockE; exact e, k, r⟩
  | n :: ds, st, hd, hf, hR => by
    obtain ⟨kvs, lk, e⟩ := hd n List.mem_cons_self
    cases lk with
    | true =>
      obtain ⟨v, st3, e1, k, r⟩ := lockE_at ds st (fun d h => hd d (List.mem_cons_of_mem _ h)) (fun st2 L => hf st2 ⟨L.nx, fun m h => L.ot m (fun q => h (List.mem_cons_of_mem _ q)), fun d h kv lk q => by
        by_cases z : d ∈ ds
        · exact L.on d z kv lk q
        · have : d = n := by
            rcases List.mem_cons.mp h with h | h
            · exact h
            · exact absurd h z
          subst this
          rw [e] at q
          cases q
          rw [L.ot _ z]; exact e⟩) hR
      refine ⟨v, st3, ?_, k, r⟩
      unfold lockE
      rw [e]
      exact e1
    | false =>
      have hn : (st.set n (.dct kvs true)).get n = some (.dct kvs true) := get_set_same e
      obtain ⟨v, st3, e1, k, r⟩ := lockE_at ds (st.set n (.dct kvs true)) (fun d h => by
          by_cases z : d = n
          · exact ⟨kvs, true, by rw [z]; exact hn⟩
          · obtain ⟨kv, lk, q⟩ := hd d (List.mem_cons_of_mem _ h)
            exact ⟨kv, lk, by rw [Sto.get_set, if_neg z]; exact q⟩) (fun st2 L => hf st2 ⟨by rw [L.nx, Sto.nx_set], fun m h => by
          rw [L.ot m (fun q => h (List.mem_cons_of_mem _ q)), Sto.get_set, if_neg (fun q => h (by rw [q]; exact List.mem_cons_self))], fun d h kv lk q => by
          by_cases z : d = n
          · subst z
            rw [e] at q
            cases q
            by_cases y : d ∈ ds
            · exact L.on d y _ true hn
            · rw [L.ot _ y]; exact hn
          · have h' : d ∈ ds := by
              rcases List.mem_cons.mp h with h | h
              · exact absurd h z
              · exact h
            exact L.on d h' kv lk (by rw [Sto.get_set, if_neg z]; exact q)⟩) hR
      refine ⟨v, st3.set n (.dct kvs false), ?_, ⟨by have := k.nx; rw [Sto.nx_set] at this ⊢; exact this, fun m hm => ?_⟩, hR _ _ _ _ r ⟨true, k.get hn⟩⟩
      · unfold lockE
        rw [e]
        show (lockE f ds (st.set n (.dct kvs true))).unl _ = _
        rw [e1]
        rfl
      · by_cases z : m = n
        · rw [z, get_set_same (k.get hn), e]
        · rw [Sto.get_set, if_neg z, k.eq m (by rw [Sto.nx_set]; exact hm), Sto.get_set, if_neg z]
theorem st_row (E : SE) : (stF E).lookup ("row" : Str) = some (.ref E.rw_) := by rfl
theorem st_locked (E : SE) : (stF E).lookup ("locked" : Str) = some (.int 0) := by rfl
theorem st_putLocked (E : SE) : putP "locked" (.int 0) (stF E) = stF E := by simp (decide := true) [stF, putP]
theorem st_len (E : SE) : (stF E).length < 900 := by simp [stF]
theorem Keep.set_same {st s2 : Sto} {n : Nat} {o : PO} (k : Keep st s2) (h : st.get n = some o) : Keep st (s2.set n o) :=
  ⟨by rw [Sto.nx_set]; exact k.nx, fun m hm => by
    by_cases z : m = n
    · rw [z, get_set_same (k.get h), h]
    · rw [Sto.get_set, if_neg z]; exact k.eq m hm⟩
theorem sLockL_at {R : Sl → Sto → Prop} {f : MS} {σ : Sl} : ∀ (ds : List Nat) (st : Sto), (∀ d ∈ ds, ∃ kvs lk, st.get d = some (.dct kvs lk)) → (∀ st2, Lkd ds st st2 → ∃ v st3, f σ st2 = .nx v st3 ∧ Keep st2 st3 ∧ R v st3) →
    (∀ v s n kvs, R v s → (∃ lk, s.get n = some (.dct kvs lk)) → R v (s.set n (.dct kvs false))) → ∃ v st3, sLockL f ds σ st = .nx v st3 ∧ Keep st st3 ∧ R v st3
  | [], st, _, hf, _ => by
    obtain ⟨v, st3, e, k, r⟩ := hf st ⟨rfl, fun _ _ => rfl, fun _ h => (nomatch h)⟩
    exact ⟨v, st3, e, k, r⟩
  | n :: ds, st, hd, hf, hR => by
    obtain ⟨kvs, lk, e⟩ := hd n List.mem_cons_self
    cases lk with
    | true =>
      obtain ⟨v, st3, e1, k, r⟩ := sLockL_at ds st (fun d h => hd d (List.mem_cons_of_mem _ h)) (fun st2 L => hf st2 ⟨L.nx, fun m h => L.ot m (fun q => h (List.mem_cons_of_mem _ q)), fun d h kv lk q => by
        by_cases z : d ∈ ds
        · exact L.on d z kv lk q
        · have : d = n := by
            rcases List.mem_cons.mp h with h | h
            · exact h
            · exact absurd h z
          subst this
          rw [e] at q
          cases q
          rw [L.ot _ z]; exact e⟩) hR
      refine ⟨v, st3, ?_, k, r⟩
      show (match st.get n with | some (.dct kvs false) => (sLockL f ds σ (st.set n (.dct kvs true))).unl fun s => s.set n (.dct kvs false) | _ => sLockL f ds σ st) = _
      rw [e]
      exact e1
    | false =>
      have hn : (st.set n (.dct kvs true)).get n = some (.dct kvs true) := get_set_same e
      obtain ⟨v, st3, e1, k, r⟩ := sLockL_at ds (st.set n (.dct kvs true)) (fun d h => by
          by_cases z : d = n
          · exact ⟨kvs, true, by rw [z]; exact hn⟩
          · obtain ⟨kv, lk, q⟩ := hd d (List.mem_cons_of_mem _ h)
            exact ⟨kv, lk, by rw [Sto.get_set, if_neg z]; exact q⟩) (fun st2 L => hf st2 ⟨by rw [L.nx, Sto.nx_set], fun m h => by
          rw [L.ot m (fun q => h (List.mem_cons_of_mem _ q)), Sto.get_set, if_neg (fun q => h (by rw [q]; exact List.mem_cons_self))], fun d h kv lk q => by
          by_cases z : d = n
          · subst z
            rw [e] at q
            cases q
            by_cases y : d ∈ ds
            · exact L.on d y _ true hn
            · rw [L.ot _ y]; exact hn
          · have h' : d ∈ ds := by
              rcases List.mem_cons.mp h with h | h
              · exact absurd h z
              · exact h
            exact L.on d h' kv lk (by rw [Sto.get_set, if_neg z]; exact q)⟩) hR
      refine ⟨v, st3.set n (.dct kvs false), ?_, ⟨by have := k.nx; rw [Sto.nx_set] at this ⊢; exact this, fun m hm => ?_⟩, hR _ _ _ _ r ⟨true, k.get hn⟩⟩
      · show (match st.get n with | some (.dct kvs false) => (sLockL f ds σ (st.set n (.dct kvs true))).unl fun s => s.set n (.dct kvs false) | _ => sLockL f ds σ st) = _
        rw [e]
        show (sLockL f ds σ (st.set n (.dct kvs true))).unl _ = _
        rw [e1]
        rfl
      · by_cases z : m = n
        · rw [z, get_set_same (k.get hn), e]
        · rw [Sto.get_set, if_neg z, k.eq m (by rw [Sto.nx_set]; exact hm), Sto.get_set, if_neg z]
theorem lock_empty {fe : ME} {g : MG} {b : MS} {σ : Sl} {st : Sto} {d : Nat} (h : fe σ st = .ok (.ref d) st) (h1 : st.get d = some (.dct [] false)) (h2 : fe σ (st.set d (.dct [] true)) = .ok (.ref d) (st.set d (.dct [] true))) :
    sLock fe (sFor (mwDict (fun l => l.map fun p => .tup [p.1, p.2]) fe) g b) σ st = .nx σ ((st.set d (.dct [] true)).set d (.dct [] false)) := by
  have e : lockedK (.ref d) (st.set d (.dct [] true)) = some [] := by
    unfold lockedK
    simp only [get_set_same h1]
    rfl
  unfold sLock
  rw [h]
  simp only [h1]
  unfold sFor mwDict
  rw [h2]
  simp only [Res.bind, e, Res.toS, List.map_nil]
  rfl
theorem keep_lock {st : Sto} {d : Nat} {kvs : List (PV × PV)} (h1 : st.get d = some (.dct kvs false)) : Keep st ((st.set d (.dct kvs true)).set d (.dct kvs false)) := by
  refine ⟨by rw [Sto.nx_set, Sto.nx_set]; exact Nat.le_refl _, fun m _ => ?_⟩
  by_cases q : m = d
  · rw [q, get_set_same (get_set_same h1), h1]
  · rw [Sto.get_set, if_neg q, Sto.get_set, if_neg q]
theorem Well.keep {st st' : Sto} {n : Nat} {m : Int} (W : Well st n m) (k : Keep st st') : Well st' n m := by
  obtain ⟨a, b, c, h1, h2⟩ := W
  exact ⟨a, b, c, k.get h1, h2⟩
theorem Well.le {st : Sto} {n : Nat} {m m' : Int} (W : Well st n m) (h : m ≤ m') : Well st n m' := by
  obtain ⟨a, b, c, h1, h2, h3, h4, h5⟩ := W
  exact ⟨a, b, c, h1, h2, h3, h4, by omega⟩
theorem Well.lt {st : Sto} {n : Nat} {m : Int} (W : Well st n m) : n < st.nx := by
  obtain ⟨a, b, c, h1, h2⟩ := W
  exact Sto.lt_nx h1
theorem Keep.but {st st' : Sto} {n : Nat} (k : Keep st st') : But n st st' := ⟨k.nx, fun m h _ => k.eq m h⟩
theorem eq11 (st : Sto) : oEq (.int 1) (.int 1) st = .ok (.bl true) st := by rfl
theorem eq10 (st : Sto) : oEq (.int 1) (.int 0) st = .ok (.bl false) st := by rfl
theorem sIf_t {t : MT} {f g : MS} {σ : Sl} {st : Sto} (h : t σ st = .ok true st) : sIf t f g σ st = f σ st := by unfold sIf; rw [h]; rfl
theorem sSet_nx {f : ME} {i : Nat} {σ : Sl} {st st1 : Sto} {v : PV} (h : f σ st = .ok v st1) : sSet i f σ st = .nx (σ.set i (some v)) st1 := by unfold sSet; rw [h]; rfl
theorem sSeq_err {f g : MS} {σ σ1 : Sl} {st st1 : Sto} {x : Exn} (h : f σ st = .err x σ1 st1) : sSeq f g σ st = .err x σ1 st1 := by unfold sSeq; rw [h]; rfl
theorem sSeq_rt {f g : MS} {σ : Sl} {st st1 : Sto} {x : PV} (h : f σ st = .rt x st1) : sSeq f g σ st = .rt x st1 := by unfold sSeq; rw [h]; rfl
theorem keep_but {s3 s4 s5 : Sto} {L : Nat} (k : Keep s3 s4) (b : But L s4 s5) (hL : s3.nx ≤ L) : Keep s3 s5 := ⟨Nat.le_trans k.nx b.nx, fun m h => (b.eq m (Nat.lt_of_lt_of_le h k.nx) (by omega)).trans (k.eq m h)⟩
theorem eqP_str (st : Sto) (n : Nat) (a : Str) : eqP st (n + 1) (.str a) (.str a) = some true := by
  simp [eqP, oneRef, eqN, seqOf, lstOf, eqS, vOf, eqV]
theorem forGo_idx {gd : Gd} {g : MG} {b : MS} (P : Nat → Sl → Sto → Prop) (hc : ∀ k σ st, P k σ st → chk gd st = true) : ∀ (xs : List PV) (k : Nat), (∀ j x, xs[j]? = some x → ∀ σ st, P (k + j) σ st → ∃ σ2 σ3 st3, g x σ = some σ2 ∧ b σ2 st = .nx σ3 st3 ∧ P (k + j + 1) σ3 st3) →
    ∀ (σ : Sl) (st : Sto), P k σ st → ∃ σ' st', forGo gd g b xs σ st = .nx σ' st' ∧ P (k + xs.length) σ' st'
  | [], k, _, σ, st, h => ⟨σ, st, by unfold forGo; rw [if_pos (hc k σ st h)], h⟩
  | x :: xs, k, hs, σ, st, h => by
    obtain ⟨σ2, σ3, st3, e1, e2, h3⟩ := hs 0 x rfl σ st h
    obtain ⟨σ', st', e, h'⟩ := forGo_idx P hc xs (k + 1) (fun j y hy σ st q => by
      obtain ⟨s2, s3, t3, q1, q2, q3⟩ := hs (j + 1) y (by simpa using hy) σ st (by rw [show k + (j + 1) = k + 1 + j by omega]; exact q)
      exact ⟨s2, s3, t3, q1, q2, by rw [show k + 1 + j + 1 = k + (j + 1) + 1 by omega]; exact q3⟩) σ3 st3 h3
    refine ⟨σ', st', ?_, by rw [List.length_cons, show k + (xs.length + 1) = k + 1 + xs.length by omega]; exact h'⟩
    unfold forGo
    rw [if_pos (hc k σ st h), e1]
    show (b σ2 st).loop _ = _
    rw [e2]
    exact e
theorem ne_get {st : Sto} {m n : Nat} {o o' : PO} (h : st.get m = some o) (h' : st.get n = some o') (ne : o ≠ o') : m ≠ n := fun q => by
  rw [q, h'] at h
  cases h
  exact ne rfl
theorem sIf_tt {t : MT} {f g : MS} {σ : Sl} {st st1 : Sto} (h : t σ st = .ok true st1) : sIf t f g σ st = f σ st1 := by unfold sIf; rw [h]; rfl
theorem sIf_ff {t : MT} {f g : MS} {σ : Sl} {st st1 : Sto} (h : t σ st = .ok false st1) : sIf t f g σ st = g σ st1 := by unfold sIf; rw [h]; rfl
def Arg (st : Sto) : PV → Prop
  | .non => True
  | .bl _ => True
  | .int _ => True
  | .str _ => True
  | .ref n => st.get n = some (.lst []) ∨ st.get n = some (.dct [] false)
  | _ => False
theorem Arg.keep {st st' : Sto} (k : Keep st st') : ∀ {x : PV}, Arg st x → Arg st' x
  | .non, _ => trivial
  | .bl _, _ => trivial
  | .int _, _ => trivial
  | .str _, _ => trivial
  | .ref n, h => h.imp k.get k.get
  | .tup _, h => h.elim
  | .ktp _, h => h.elim
  | .rls _, h => h.elim
  | .ty _, h => h.elim
theorem Arg.but {st st' : Sto} {w : Nat} (k : But w st st') : ∀ {x : PV}, Arg st x → x ≠ .ref w → Arg st' x
  | .non, _, _ => trivial
  | .bl _, _, _ => trivial
  | .int _, _, _ => trivial
  | .str _, _, _ => trivial
  | .ref n, h, q => h.imp (fun z => (k.eq n (Sto.lt_nx z) (fun y => q (by rw [y]))).trans z) (fun z => (k.eq n (Sto.lt_nx z) (fun y => q (by rw [y]))).trans z)
  | .tup _, h, _ => h.elim
  | .ktp _, h, _ => h.elim
  | .rls _, h, _ => h.elim
  | .ty _, h, _ => h.elim
def isB : PV → Bool
  | .bl _ => true
  | _ => false
def isI : PV → Bool
  | .bl _ => true
  | .int _ => true
  | _ => false
theorem gisi_b {st : Sto} : ∀ {x : PV}, Arg st x → gIsi [x, .ty "bool"] st = some (.bl (isB x), st)
  | .non, _ => rfl
  | .bl _, _ => rfl
  | .int _, _ => rfl
  | .str _, _ => rfl
  | .ref n, h => by
    rcases h with h | h
    · have e : tyOf (.ref n) st = some "list" := by simp [tyOf, h]
      unfold gIsi
      simp only [e]
      rfl
    · have e : tyOf (.ref n) st = some "dict" := by simp [tyOf, h]
      unfold gIsi
      simp only [e]
      rfl
  | .tup _, h => h.elim
  | .ktp _, h => h.elim
  | .rls _, h => h.elim
  | .ty _, h => h.elim
theorem gisi_i {st : Sto} : ∀ {x : PV}, Arg st x → gIsi [x, .ty "int"] st = some (.bl (isI x), st)
  | .non, _ => rfl
  | .bl _, _ => rfl
  | .int _, _ => rfl
  | .str _, _ => rfl
  | .ref n, h => by
    rcases h with h | h
    · have e : tyOf (.ref n) st = some "list" := by simp [tyOf, h]
      unfold gIsi
      simp only [e]
      rfl
    · have e : tyOf (.ref n) st = some "dict" := by simp [tyOf, h]
      unfold gIsi
      simp only [e]
      rfl
  | .tup _, h => h.elim
  | .ktp _, h => h.elim
  | .rls _, h => h.elim
  | .ty _, h => h.elim
def isN : PV → Bool
  | .non => true
  | _ => false
def inB (lo hi : Int) : PV → Bool
  | .int i => decide (lo ≤ i) && decide (i ≤ hi)
  | _ => false
theorem isint_at {st : Sto} {x : PV} (h : Arg st x) : p_is_integer [x] st = .ok (.bl (isI x && !isB x)) st := by
  unfold p_is_integer runB b_is_integer
  simp [slots, sRet, mAnd, mB, mCons, mNil, mVar, mC, mNot, Res.bind, gisi_i h, gisi_b h, truP]
  cases isI x <;> simp [Res.toS, outV]
theorem btw_at {st : Sto} {x : PV} {lo hi : Int} (h : Arg st x) : p_is_between [x, .int lo, .int hi] st = .ok (.bl (inB lo hi x)) st := by
  unfold p_is_between runB b_is_between
  simp [slots, sRet, mAnd, mCall, gp_is_integer, mCons, mNil, mVar, mChain, Res.bind, isint_at h, truP]
  cases x <;> simp [isI, isB, inB, Res.toS, outV, oLe, opII]
  case int i => by_cases q : lo ≤ i <;> simp [q, Res.bind, Res.toS, outV]
theorem notN_at {st : Sto} (x : PV) : oNotN x .non st = .ok (.bl (!isN x)) st := by cases x <;> rfl
theorem isN_at {st : Sto} (x : PV) : oIsN x .non st = .ok (.bl (isN x)) st := by cases x <;> rfl
theorem isint_int (i : Int) (st : Sto) : p_is_integer [.int i] st = .ok (.bl true) st := by rfl
end LW
set_option linter.all false
set_option maxRecDepth 100000
set_option maxHeartbeats 8000000
namespace LW
open MP PySem L2
theorem set_set (st : Sto) (n : Nat) (a b : PO) : (st.set n a).set n b = st.set n b := by
  unfold Sto.set
  simp [Array.setIfInBounds_setIfInBounds]
theorem add_set (st : Sto) (a b : PO) : (st.add a).set st.nx b = st.add b := by
  unfold Sto.set Sto.add Sto.nx
  refine congrArg Sto.mk (Array.ext' ?_)
  simp [List.set_append]
theorem chk_set {gd : Gd} {st : Sto} {D : Nat} {o : PO} (hD : ∀ p ∈ gd, p.1 ≠ D) (h : chk gd st = true) : chk gd (st.set D o) = true := by
  unfold chk at h ⊢
  rw [List.all_eq_true] at h ⊢
  intro p hp
  have := h p hp
  rw [Sto.get_set, if_neg (hD p hp)]
  exact this
theorem lc_map {gd : Gd} {g : MG} {fe : ME} {D : Nat} {σw : Sl} {st : Sto} (f : PV → PV) (hD : ∀ p ∈ gd, p.1 ≠ D) (hgd : chk gd st = true) : ∀ (xs ys : List PV), (∃ zs, st.get D = some (.lst zs)) → ys.length + xs.length < 100000 →
    (∀ x ∈ xs, ∀ zs, ∃ σ2, g x σw = some σ2 ∧ fe σ2 (st.set D (.lst zs)) = .ok (f x) (st.set D (.lst zs))) → cpGo gd g (lcStep mtYes fe D) σw xs (st.set D (.lst ys)) = .ok () (st.set D (.lst (ys ++ xs.map f)))
  | [], ys, _, _, _ => by
    unfold cpGo
    rw [if_pos (chk_set hD hgd), List.map_nil, List.append_nil]
  | x :: xs, ys, ⟨zs, hz⟩, hl, hx => by
    rw [List.length_cons] at hl
    obtain ⟨σ2, e1, e2⟩ := hx x List.mem_cons_self ys
    have ih := lc_map f hD hgd xs (ys ++ [f x]) ⟨zs, hz⟩ (by rw [List.length_append, List.length_singleton]; omega) (fun y hy => hx y (List.mem_cons_of_mem _ hy))
    have g1 : (st.set D (.lst ys)).get D = some (.lst ys) := get_set_same hz
    have len : ys.length < sizeLine := by rw [sizeLine_eq]; omega
    unfold cpGo
    rw [if_pos (chk_set hD hgd), e1]
    simp only [lcStep, mtYes, Res.bind, if_true, e2, appD, g1, len, Res.calm, set_set]
    rw [ih, List.map_cons, List.append_assoc]
    rfl
theorem mlc_map {w : MW} {gd : Gd} {g : MG} {fe : ME} {vs : List Nat} {σ : Sl} {st st1 : Sto} {xs : List PV} (f : PV → PV) (hw : w σ st = .ok (xs, gd) st1) (hgd : chk gd st1 = true) (hD : ∀ p ∈ gd, p.1 < st1.nx) (hl : xs.length < 100000)
    (hx : ∀ x ∈ xs, ∀ zs, ∃ σ2, g x (wipeP σ vs) = some σ2 ∧ fe σ2 (st1.add (.lst zs)) = .ok (f x) (st1.add (.lst zs))) : mLc w g mtYes fe vs σ st = .ok (.ref st1.nx) (st1.add (.lst (xs.map f))) := by
  have hD' : ∀ p ∈ gd, p.1 ≠ st1.nx := fun p hp => Nat.ne_of_lt (hD p hp)
  have hc : chk gd (st1.add (.lst [])) = true := by
    unfold chk at hgd ⊢
    rw [List.all_eq_true] at hgd ⊢
    intro p hp
    have := hgd p hp
    rw [Sto.get_add, if_neg (hD' p hp)]
    exact this
  have k := lc_map (g := g) (fe := fe) (σw := wipeP σ vs) (st := st1.add (.lst [])) (D := st1.nx) f hD' hc xs [] ⟨[], get_add_new⟩ (by simpa using hl) (fun x h zs => by rw [add_set]; exact hx x h zs)
  rw [add_set, add_set, List.nil_append] at k
  unfold mLc
  rw [hw]
  simp only [Res.bind]
  rw [k]
end LW
set_option linter.all false
set_option maxRecDepth 100000
set_option maxHeartbeats 8000000
namespace LW
open MP PySem L2
def mpF (r sh ix stp : PV) : List (Str × PV) := [("rights", r), ("shared", sh), ("source", .non), ("index", ix), ("flags", .tup []), ("held", .non), ("stamp", stp)]
def Mp (st : Sto) (n : Nat) : Prop := ∃ r sh ix stp, st.get n = some (.ins 6 (mpF r sh ix stp))
structure Sys (st : Sto) (E : SE) (s : Nat) (step : Int) (d : Nat) (pg : List (Int × Nat)) : Prop where
  a : st.get s = some (.ins 9 (sysF E step 1))
  b : st.get E.sp = some (.dct [(.int 1, .ref d)] false)
  c : st.get E.ob = some (.dct [] false)
  sk : st.get E.sk = some (.ins 8 (stF E))
  e : st.get E.rw_ = some (.lst [])
  f : st.get d = some (.dct (kv pg) false)
  n1 : E.sp ≠ E.ob
  n2 : d ≠ E.sp
  n3 : d ≠ E.ob
  nd : (pg.map (·.1)).Nodup
  mp : ∀ p ∈ pg, Mp st p.2
theorem Mp.keep {st st' : Sto} {n : Nat} (h : Mp st n) (k : Keep st st') : Mp st' n := by
  obtain ⟨r, sh, ix, stp, h⟩ := h
  exact ⟨r, sh, ix, stp, k.get h⟩
theorem Sys.keep {st st' : Sto} {E : SE} {s d : Nat} {step : Int} {pg : List (Int × Nat)} (S : Sys st E s step d pg) (k : Keep st st') : Sys st' E s step d pg :=
  ⟨k.get S.a, k.get S.b, k.get S.c, k.get S.sk, k.get S.e, k.get S.f, S.n1, S.n2, S.n3, S.nd, fun p hp => (S.mp p hp).keep k⟩
theorem kv_ints : ∀ al : List (Int × Nat), intsOf ((kv al).map (·.1)) = some (al.map (·.1))
  | [] => rfl
  | p :: r => by
    have := kv_ints r
    simp [kv, intsOf] at this ⊢
    simp [this]
theorem kv_keys (al : List (Int × Nat)) : ((kv al).all fun p => (keyK p.1).isSome) = true := by
  simp [kv, keyK]
theorem kv_get : ∀ {al : List (Int × Nat)} {i : Int} {d : Nat}, (al.map (·.1)).Nodup → (i, d) ∈ al → dgetP (kv al) (.int i) = some (.ref d)
  | [], _, _, _, h => by cases h
  | p :: r, i, d, pw, h => by
    unfold dgetP kv
    rw [List.map_cons, List.find?_cons]
    rcases List.mem_cons.mp h with e | e
    · subst e
      simp
    · have hm : i ∈ r.map (·.1) := List.mem_map.mpr ⟨_, e, rfl⟩
      have h2 : ¬ p.1 = i := fun q => (List.nodup_cons.mp pw).1 (by rw [← q] at hm; exact hm)
      have := kv_get (List.nodup_cons.mp pw).2 e
      unfold dgetP kv at this
      simp [h2]
      simpa using this
theorem kv_none {al : List (Int × Nat)} {i : Int} (h : ∀ p ∈ al, p.1 ≠ i) : dgetP (kv al) (.int i) = none := by
  unfold dgetP
  rw [Option.map_eq_none_iff, List.find?_eq_none]
  intro x hx
  obtain ⟨p, hp, rfl⟩ := List.mem_map.mp hx
  have := h p hp
  simp [this]
/-- is the page mapped -/
def has (pg : List (Int × Nat)) (i : Int) : Bool := pg.any fun p => p.1 == i
theorem has_get : ∀ (pg : List (Int × Nat)) (i : Int), (dgetP (kv pg) (.int i)).isSome = has pg i
  | [], _ => rfl
  | p :: r, i => by
    have ih := has_get r i
    unfold dgetP kv has at ih ⊢
    rw [List.map_cons, List.find?_cons, List.any_cons]
    by_cases q : p.1 = i
    · simp [q]
    · have q2 : (p.1 == i) = false := by simp [q]
      rw [q2, Bool.false_or]
      simp [q]
      simpa using ih
theorem srtK {st : Sto} {d : Nat} {pg : List (Int × Nat)} {lk : Bool} (h : st.get d = some (.dct (kv pg) lk)) : gOr (gNewL srtL) (gNewL srtA) [.ref d] st = some (.ref st.nx, st.add (.lst ((sortI (pg.map (·.1))).map .int))) := by
  have e1 : gNewL srtL [.ref d] st = none := by simp [gNewL, srtL, lstOf, h]
  have e2 : srtA [.ref d] st = some ((sortI (pg.map (·.1))).map .int) := by
    have e3 : keysD (.ref d) st = some (kv pg) := by
      unfold keysD
      simp only [h, kv_keys, if_true]
    unfold srtA
    simp only [e3, Option.bind_some, kv_ints, Option.map_some]
  unfold gOr
  rw [e1]
  simp [gNewL, e2]
theorem sort_mem {pg : List (Int × Nat)} {x : PV} (h : x ∈ (sortI (pg.map (·.1))).map PV.int) : ∃ p ∈ pg, x = .int p.1 := by
  obtain ⟨i, hi, rfl⟩ := List.mem_map.mp h
  have : i ∈ pg.map (·.1) := (List.mergeSort_perm _ _).mem_iff.mp hi
  obtain ⟨p, hp, rfl⟩ := List.mem_map.mp this
  exact ⟨p, hp, rfl⟩
theorem sort_len (l : List Int) : (sortI l).length = l.length := (List.mergeSort_perm l _).length_eq
theorem sorted_pages_at {st : Sto} {d : Nat} {pg : List (Int × Nat)} (h : st.get d = some (.dct (kv pg) false)) (nd : (pg.map (·.1)).Nodup) (hl : pg.length < 90000) :
    ∃ items st', p_sorted_pages [.ref d] st = .ok (.ref (st.nx + 1)) st' ∧ st'.get (st.nx + 1) = some (.lst items) ∧ (∀ y ∈ items, ∃ p ∈ pg, y = .tup [.int p.1, .ref p.2]) ∧ items.length = pg.length ∧ Keep st st' ∧ st'.nx = st.nx + 2 := by
  have k1 : Keep st (st.add (.lst ((sortI (pg.map (·.1))).map .int))) := Keep.add
  have ew : mwE (mB (gOr (gNewL srtL) (gNewL srtA)) (mCons (mVar 0) mNil)) [some (.ref d), none] st = .ok ((sortI (pg.map (·.1))).map .int, [(st.nx, .lst ((sortI (pg.map (·.1))).map .int))]) (st.add (.lst ((sortI (pg.map (·.1))).map .int))) := by
    simp [mwE, mB, mCons, mNil, mVar, Res.bind, srtK h, walkV, Sto.get_add]
  have ln : ((sortI (pg.map (·.1))).map PV.int).length = pg.length := by rw [List.length_map, sort_len, List.length_map]
  have e := mlc_map (g := gN 1) (fe := (mTup (mCons (mVar 1) (mCons (mIx (mVar 0) (mVar 1)) mNil)))) (vs := [1]) (fun x => .tup [x, (dgetP (kv pg) x).getD .non]) ew (by simp [chk, Sto.get_add]) (by simp [Sto.nx_add]) (by omega) (fun x hx zs => by
    obtain ⟨p, hp, rfl⟩ := sort_mem hx
    have g := kv_get nd (show (p.1, p.2) ∈ pg from hp)
    have h2 : ((st.add (.lst ((sortI (pg.map (·.1))).map .int))).add (.lst zs)).get d = some (.dct (kv pg) false) := get_add_old (get_add_old h)
    refine ⟨[some (.ref d), some (.int p.1)], rfl, ?_⟩
    simp [mTup, mCons, mNil, mVar, mIx, Res.bind, ixP, h2, kv_fit, g, sz])
  refine ⟨((sortI (pg.map (·.1))).map PV.int).map (fun x => .tup [x, (dgetP (kv pg) x).getD .non]), (st.add (.lst ((sortI (pg.map (·.1))).map .int))).add (.lst (((sortI (pg.map (·.1))).map PV.int).map (fun x => .tup [x, (dgetP (kv pg) x).getD .non]))), ?_, ?_, ?_, ?_, k1.trans Keep.add, by rw [Sto.nx_add, Sto.nx_add]⟩
  · show outV (sRet _ [some (.ref d), none] st) = _
    unfold sRet
    rw [e]
    simp [Res.toS, outV, Sto.nx_add]
  · have := get_add_new (st := st.add (.lst ((sortI (pg.map (·.1))).map .int))) (o' := .lst (((sortI (pg.map (·.1))).map PV.int).map (fun x => .tup [x, (dgetP (kv pg) x).getD .non])))
    rw [Sto.nx_add] at this
    exact this
  · intro y hy
    obtain ⟨x, hx, rfl⟩ := List.mem_map.mp hy
    obtain ⟨p, hp, rfl⟩ := sort_mem hx
    exact ⟨p, hp, by rw [kv_get nd (show (p.1, p.2) ∈ pg from hp)]; rfl⟩
  · rw [List.length_map, ln]
end LW
set_option linter.all false
set_option maxRecDepth 100000
set_option maxHeartbeats 8000000
namespace LW
open MP PySem L2
theorem sort_one : sortI [1] = [1] := by unfold sortI; simp
theorem srt_sp {st : Sto} {sp d : Nat} {lk : Bool} (h : st.get sp = some (.dct [(.int 1, .ref d)] lk)) : gOr (gNewL srtL) (gNewL srtA) [.ref sp] st = some (.ref st.nx, st.add (.lst [.int 1])) := by
  have := srtK (pg := [(1, d)]) h
  rw [this]
  show some (_, st.add (.lst ((sortI [1]).map .int))) = _
  rw [sort_one]
  rfl
theorem ix_space {st : Sto} {E : SE} {s d : Nat} {step : Int} {σ : Sl} {i : Nat} {lk : Bool} (ha : st.get s = some (.ins 9 (sysF E step 1))) (hb : st.get E.sp = some (.dct [(.int 1, .ref d)] lk)) (h0 : σ[0]? = some (some (.ref s))) (hi : σ[i]? = some (some (.int 1))) :
    mIx (mFld 9 "spaces" (mVar 0)) (mVar i) σ st = .ok (.ref d) st := by
  have g : ixP (.ref E.sp) (.int 1) st = some (.ref d) := by
    unfold ixP
    simp only [hb]
    cases lk <;> rfl
  simp [mIx, mFld, mVar, h0, hi, Res.bind, insOf, ha, sys_spaces, g]
def pairOf : PV → PV
  | .tup [a, b] => .tup [.tup [.int 1, a], b]
  | _ => .non
abbrev elP : ME := (mTup (mCons (mTup (mCons (mVar 2) (mCons (mVar 3) mNil))) (mCons (mVar 4) mNil)))
abbrev lcP : ME := (mLc (mwE (mCall p_sorted_pages gp_sorted_pages (mCons (mIx (mFld 9 "spaces" (mVar 0)) (mVar 2)) mNil))) (gT 2 (gsCons (gN 3) (gsCons (gN 4) gsNil))) mtYes elP [3, 4])
theorem lcP_at {st : Sto} {E : SE} {s d : Nat} {step : Int} {pg : List (Int × Nat)} {F : PV} (S : Sys st E s step d pg) (hl : pg.length < 90000) :
    ∃ items st', lcP [some (.ref s), some F, some (.int 1), none, none] st = .ok (.ref (st.nx + 2)) st' ∧ st'.get (st.nx + 2) = some (.lst items) ∧ (∀ y ∈ items, ∃ u, ∃ p ∈ pg, y = .tup [u, .ref p.2]) ∧ items.length = pg.length ∧ Keep st st' := by
  obtain ⟨it, s1, e1, g1, m1, l1, k1, n1⟩ := sorted_pages_at S.f S.nd hl
  have ew : mwE (mCall p_sorted_pages gp_sorted_pages (mCons (mIx (mFld 9 "spaces" (mVar 0)) (mVar 2)) mNil)) [some (.ref s), some F, some (.int 1), none, none] st = .ok (it, [(st.nx + 1, .lst it)]) s1 := by
    have ix := ix_space (σ := [some (.ref s), some F, some (.int 1), none, none]) (i := 2) S.a S.b rfl rfl
    simp only [mwE, mCall, gp_sorted_pages, mCons, mNil, ix, Res.bind, e1]
    simp [walkV, g1]
  have e := mlc_map (g := gT 2 (gsCons (gN 3) (gsCons (gN 4) gsNil))) (fe := elP) (vs := [3, 4]) pairOf ew (by simp [chk, g1]) (by simp [n1]) (by omega) (fun x hx zs => by
    obtain ⟨p, hp, rfl⟩ := m1 x hx
    refine ⟨[some (.ref s), some F, some (.int 1), some (.int p.1), some (.ref p.2)], rfl, ?_⟩
    simp [elP, mTup, mCons, mNil, mVar, Res.bind, sz, pairOf])
  rw [n1] at e
  refine ⟨it.map pairOf, s1.add (.lst (it.map pairOf)), e, ?_, ?_, by rw [List.length_map, l1], k1.trans Keep.add⟩
  · have := get_add_new (st := s1) (o' := .lst (it.map pairOf))
    rw [n1] at this
    exact this
  · intro y hy
    obtain ⟨x, hx, rfl⟩ := List.mem_map.mp hy
    obtain ⟨p, hp, rfl⟩ := m1 x hx
    exact ⟨.tup [.int 1, .int p.1], p, hp, rfl⟩
theorem places_at {st : Sto} {E : SE} {s d : Nat} {step : Int} {pg : List (Int × Nat)} (S : Sys st E s step d pg) (hl : pg.length < 90000) :
    ∃ items st', p_places [.ref s] st = .ok (.ref st.nx) st' ∧ st'.get st.nx = some (.lst items) ∧ (∀ y ∈ items, ∃ u, ∃ p ∈ pg, y = .tup [u, .ref p.2]) ∧ Keep st st' := by
  have k1 : Keep st (st.add (.lst [])) := Keep.add
  have S1 := S.keep k1
  have k2 : Keep (st.add (.lst [])) ((st.add (.lst [])).add (.lst [.int 1])) := Keep.add
  have S2 := S1.keep k2
  obtain ⟨it, s3, e3, g3, m3, l3, k3⟩ := lcP_at (F := .ref st.nx) S2 hl
  have f0 : (st.add (.lst [])).get st.nx = some (.lst []) := get_add_new
  have f2 := k2.get f0
  have f3 := k3.get f2
  have q0 := get_add_new (st := st.add (.lst [])) (o' := .lst [.int 1])
  have q3 := k3.get q0
  have len : it.length ≤ 16777216 := by omega
  refine ⟨it, s3.set st.nx (.lst it), ?_, get_set_same f3, m3, ?_⟩
  · show outV (sSeq _ _ [some (.ref s), none, none, none, none] st) = _
    rw [sSeq_nx (σ1 := [some (.ref s), some (.ref st.nx), none, none, none]) (st1 := st.add (.lst [])) (by rfl)]
    have ew : mwE (mB (gOr (gNewL srtL) (gNewL srtA)) (mCons (mFld 9 "spaces" (mVar 0)) mNil)) [some (.ref s), some (.ref st.nx), none, none, none] (st.add (.lst [])) = .ok ([.int 1], [(st.nx + 1, .lst [.int 1])]) ((st.add (.lst [])).add (.lst [.int 1])) := by
      rw [Sto.nx_add] at q0
      simp [mwE, mB, mCons, mNil, mFld, mVar, Res.bind, insOf, S1.a, sys_spaces, srt_sp S1.b, walkV, q0, Sto.nx_add]
    have eb : (sExpr (mBM tpL gExtend (mVar 1) (mCons lcP mNil))) [some (.ref s), some (.ref st.nx), some (.int 1), none, none] ((st.add (.lst [])).add (.lst [.int 1])) = .nx [some (.ref s), some (.ref st.nx), some (.int 1), none, none] (s3.set st.nx (.lst it)) := by
      have v1 : mVar 1 [some (.ref s), some (.ref st.nx), some (.int 1), none, none] ((st.add (.lst [])).add (.lst [.int 1])) = .ok (.ref st.nx) ((st.add (.lst [])).add (.lst [.int 1])) := rfl
      have t1 : tpL (.ref st.nx) ((st.add (.lst [])).add (.lst [.int 1])) = true := by simp [tpL, f2]
      simp only [sExpr, mBM, v1, Res.bind, t1, if_true, mCons, mNil, e3]
      simp [gExtend, ownL, f3, g3, sz, len, Res.toS]
    have ef : sFor (mwE (mB (gOr (gNewL srtL) (gNewL srtA)) (mCons (mFld 9 "spaces" (mVar 0)) mNil))) (gN 2) (sExpr (mBM tpL gExtend (mVar 1) (mCons lcP mNil))) [some (.ref s), some (.ref st.nx), none, none, none] (st.add (.lst [])) = .nx [some (.ref s), some (.ref st.nx), some (.int 1), none, none] (s3.set st.nx (.lst it)) := by
      unfold sFor
      rw [ew]
      simp only [Res.toS]
      have c1 : chk [(st.nx + 1, .lst [.int 1])] ((st.add (.lst [])).add (.lst [.int 1])) = true := by
        rw [Sto.nx_add] at q0
        simp [chk, q0]
      have c2 : chk [(st.nx + 1, .lst [.int 1])] (s3.set st.nx (.lst it)) = true := by
        rw [Sto.nx_add] at q3
        simp [chk, Sto.get_set, q3]
      unfold forGo
      rw [if_pos c1]
      simp only [gN, List.set_cons_zero, List.set_cons_succ, eb, ResS.loop]
      unfold forGo
      rw [if_pos c2]
    rw [sSeq_nx ef]
    rfl
  · refine ⟨by rw [Sto.nx_set]; exact ((k1.trans k2).trans k3).nx, fun m hm => ?_⟩
    rw [Sto.get_set, if_neg (by omega)]
    exact ((k1.trans k2).trans k3).eq m hm
end LW
set_option linter.all false
set_option maxRecDepth 100000
set_option maxHeartbeats 8000000
namespace LW
open MP PySem L2
/-- a walk over pages that finds none -/
theorem walk_in {g : Nat} {ft1 : MT} {fe : ME} {D : Nat} {σ' : Sl} {st : Sto} : ∀ (pg : List (Int × Nat)), (∀ p ∈ pg, ft1 (σ'.set g (some (.ref p.2))) st = .ok false st) → cpGo [] (gN g) (lcStep ft1 fe D) σ' ((kv pg).map (·.2)) st = .ok () st
  | [], _ => rfl
  | p :: r, h => by
    have ih := walk_in (g := g) (ft1 := ft1) (fe := fe) (D := D) (σ' := σ') (st := st) r (fun q hq => h q (List.mem_cons_of_mem _ hq))
    have e := h p List.mem_cons_self
    show cpGo [] (gN g) _ σ' (.ref p.2 :: (kv r).map (·.2)) st = _
    unfold cpGo
    simp only [chk, List.all_nil, if_true, gN, lcStep, e, Res.bind, Bool.false_eq_true, if_false, Res.calm]
    exact ih
theorem refs_kv : ∀ al : List (Int × Nat), refs ((kv al).map (·.2)) = al.map (·.2)
  | [] => rfl
  | p :: r => by
    have := refs_kv r
    simp [refs, kv] at this ⊢
    exact this
abbrev tLock (i : Nat) : MT := mTru (mOp (oIn false) (mC (.str "lock")) (mFld 6 "flags" (mVar i)))
theorem mp_flags (r sh ix stp : PV) : (mpF r sh ix stp).lookup ("flags" : Str) = some (.tup []) := by rfl
theorem mp_source (r sh ix stp : PV) : (mpF r sh ix stp).lookup ("source" : Str) = some .non := by rfl
theorem mp_held (r sh ix stp : PV) : (mpF r sh ix stp).lookup ("held" : Str) = some .non := by rfl
theorem tLock_at {st : Sto} {σ : Sl} {i n : Nat} (h : Mp st n) (hi : σ[i]? = some (some (.ref n))) : tLock i σ st = .ok false st := by
  obtain ⟨r, sh, ix, stp, h⟩ := h
  simp [tLock, mTru, mOp, mC, mFld, mVar, hi, Res.bind, insOf, h, mp_flags, oIn, inP, anyEq, truP]
/-- the comprehension over all pages of all processes finds none -/
theorem lc2_none {st : Sto} {E : SE} {s d : Nat} {step : Int} {pg : List (Int × Nat)} {σ : Sl} {i j : Nat} {fe : ME} (ha : st.get s = some (.ins 9 (sysF E step 1))) (hb : st.get E.sp = some (.dct [(.int 1, .ref d)] true)) (hf : st.get d = some (.dct (kv pg) true)) (mp : ∀ p ∈ pg, Mp st p.2) (h0 : σ[0]? = some (some (.ref s))) (hw : wipeP σ [i, j] = σ) (hw2 : wipeP (σ.set i (some (.ref d))) [j] = σ.set i (some (.ref d))) (hi : (σ.set i (some (.ref d)))[i]? = some (some (.ref d))) (hj : ∀ x : PV, ((σ.set i (some (.ref d))).set j (some x))[j]? = some (some x)) :
    mLc2 (mwDict (fun l => l.map (·.2)) (mFld 9 "spaces" (mVar 0))) (gN i) mtYes (mwDict (fun l => l.map (·.2)) (mVar i)) (gN j) (tLock j) fe [i, j] [j] σ st = .ok (.ref st.nx) (st.add (.lst [])) := by
  have k : Keep st (st.add (.lst [])) := Keep.add
  have l0 : lockedK (.ref E.sp) st = some [(.int 1, .ref d)] := by
    unfold lockedK
    simp only [hb]
    rfl
  have l1 : lockedK (.ref d) (st.add (.lst [])) = some (kv pg) := by
    unfold lockedK
    simp only [k.get hf, kv_keys, if_true]
  have w := walk_in (g := j) (ft1 := tLock j) (fe := fe) (D := st.nx) (σ' := σ.set i (some (.ref d))) (st := st.add (.lst [])) pg (fun p hp => tLock_at ((mp p hp).keep k) (hj _))
  have f := fld_get (i := 0) (σ := σ) (n := s) (st := st) (v := .ref E.sp) h0 ha (sys_spaces _ _ _)
  have vi : mVar i (σ.set i (some (.ref d))) (st.add (.lst [])) = .ok (.ref d) (st.add (.lst [])) := by
    simp only [mVar, hi]
  unfold mLc2
  simp only [mwDict, f, Res.bind, l0, List.map_cons, List.map_nil, hw]
  have e : cpGo [] (gN i) (lc2Step mtYes (mwDict (fun l => l.map (·.2)) (mVar i)) (gN j) [j] (lcStep (tLock j) fe st.nx)) σ [.ref d] (st.add (.lst [])) = .ok () (st.add (.lst [])) := by
    unfold cpGo
    simp only [chk, List.all_nil, if_true, gN, lc2Step, mtYes, mwDict, vi, Res.bind, l1, hw2, w, Res.calm]
    rfl
  rw [e]
end LW
set_option linter.all false
set_option maxRecDepth 100000
set_option maxHeartbeats 8000000
namespace LW
open MP PySem L2
theorem id2_at {st : Sto} {E : SE} {s d : Nat} {step : Int} {pg : List (Int × Nat)} {σ : Sl} (S : Sys st E s step d pg) (h0 : σ[0]? = some (some (.ref s))) : idE2 (mFld 9 "spaces" (mVar 0)) σ st = [E.sp, d] := by
  unfold idE2
  rw [fld_get (n := s) (v := .ref E.sp) h0 S.a (sys_spaces _ _ _)]
  simp only [S.b]
  rfl
theorem lk_dicts {st : Sto} {E : SE} {s d : Nat} {step : Int} {pg : List (Int × Nat)} (S : Sys st E s step d pg) : ∀ x ∈ [E.sp, d], ∃ kvs lk, st.get x = some (.dct kvs lk) := fun x h => by
  rcases List.mem_cons.mp h with h | h
  · exact ⟨_, _, by rw [h]; exact S.b⟩
  · rw [List.mem_singleton.mp h]
    exact ⟨_, _, S.f⟩
structure LkS (st : Sto) (E : SE) (s : Nat) (step : Int) (d : Nat) (pg : List (Int × Nat)) : Prop where
  a : st.get s = some (.ins 9 (sysF E step 1))
  b : st.get E.sp = some (.dct [(.int 1, .ref d)] true)
  f : st.get d = some (.dct (kv pg) true)
  mp : ∀ p ∈ pg, Mp st p.2
theorem lk_sys {st st2 : Sto} {E : SE} {s d : Nat} {step : Int} {pg : List (Int × Nat)} (S : Sys st E s step d pg) (L : Lkd [E.sp, d] st st2) : LkS st2 E s step d pg := by
  have nd : ∀ m fs c, st.get m = some (.ins c fs) → m ∉ [E.sp, d] := fun m fs c h q => by
    obtain ⟨kvs, lk, e⟩ := lk_dicts S m q
    rw [h] at e; cases e
  refine ⟨(L.ot _ (nd _ _ _ S.a)).trans S.a, L.on _ List.mem_cons_self _ _ S.b, L.on _ (List.mem_cons_of_mem _ List.mem_cons_self) _ _ S.f, fun p hp => ?_⟩
  obtain ⟨r, sh, ix, stp, h⟩ := S.mp p hp
  exact ⟨r, sh, ix, stp, (L.ot _ (nd _ _ _ h)).trans h⟩
abbrev mLP : ME := (mLc2 (mwDict (fun l => l.map (·.2)) (mFld 9 "spaces" (mVar 0))) (gN 1) mtYes (mwDict (fun l => l.map (·.2)) (mVar 1)) (gN 2) (tLock 2) (mC (.int 1)) [1, 2] [2])
theorem locked_pages_at {st : Sto} {E : SE} {s d : Nat} {step : Int} {pg : List (Int × Nat)} (S : Sys st E s step d pg) : ∃ st', p_System_locked_pages [.ref s] st = .ok (.int 0) st' ∧ Keep st st' := by
  obtain ⟨v, st3, e, k, r, hr⟩ : ∃ v st3, lockE (fun s2 => mLP [some (.ref s), none, none] s2) [E.sp, d] st = .ok v st3 ∧ Keep st st3 ∧ v = .ref st.nx ∧ st3.get st.nx = some (.lst []) := lockE_at (α := PV) (R := fun (v : PV) (s2 : Sto) => v = .ref st.nx ∧ s2.get st.nx = some (.lst [])) (f := fun s2 => mLP [some (.ref s), none, none] s2) [E.sp, d] st (lk_dicts S) (fun st2 L => by
      have K := lk_sys S L
      have e := lc2_none (fe := mC (.int 1)) (σ := [some (.ref s), none, none]) (i := 1) (j := 2) K.a K.b K.f K.mp rfl rfl rfl rfl (fun _ => rfl)
      exact ⟨.ref st2.nx, st2.add (.lst []), e, Keep.add, by rw [L.nx], by rw [← L.nx]; exact get_add_new⟩) (fun v s2 n kvs ⟨h1, h2⟩ ⟨lk, h3⟩ => ⟨h1, by
        rw [Sto.get_set, if_neg (fun q => by rw [← q, h2] at h3; cases h3)]; exact h2⟩)
  refine ⟨st3, ?_, k⟩
  show outV (sRet (mB (gL1 sumL) (mCons (mLock (idE2 (mFld 9 "spaces" (mVar 0))) mLP) mNil)) [some (.ref s), none, none] st) = _
  unfold sRet mB mCons mNil mLock
  rw [id2_at S rfl]
  simp only [Res.bind]
  rw [e]
  subst r
  simp [Res.toS, gL1, lstOf, hr, sumL, intsOf, outV]
theorem locked_items_at {st : Sto} {E : SE} {s d : Nat} {step : Int} {pg : List (Int × Nat)} (S : Sys st E s step d pg) : ∃ x st', p_System_locked_items [.ref s] st = .ok x st' ∧ Keep st st' := by
  obtain ⟨v, st3, e, k, r, hr⟩ : ∃ v st3, sLockL (sSet 1 (mLc2 (mwDict (fun l => l.map (·.2)) (mFld 9 "spaces" (mVar 0))) (gN 2) mtYes (mwDict (fun l => l.map (·.2)) (mVar 2)) (gN 3) (tLock 3) (mVar 3) [2, 3] [3])) [E.sp, d] [some (.ref s), none, none, none] st = .nx v st3 ∧ Keep st st3 ∧ v = [some (.ref s), some (.ref st.nx), none, none] ∧ st3.get st.nx = some (.lst []) :=
    sLockL_at (R := fun (v : Sl) (s2 : Sto) => v = [some (.ref s), some (.ref st.nx), none, none] ∧ s2.get st.nx = some (.lst [])) [E.sp, d] st (lk_dicts S) (fun st2 L => by
      have K := lk_sys S L
      have e := lc2_none (fe := mVar 3) (σ := [some (.ref s), none, none, none]) (i := 2) (j := 3) K.a K.b K.f K.mp rfl rfl rfl rfl (fun _ => rfl)
      rw [L.nx] at e
      exact ⟨[some (.ref s), some (.ref st.nx), none, none], st2.add (.lst []), sSet_nx e, Keep.add, rfl, by rw [← L.nx]; exact get_add_new⟩) (fun v s2 n kvs ⟨h1, h2⟩ ⟨lk, h3⟩ => ⟨h1, by
        rw [Sto.get_set, if_neg (fun q => by rw [← q, h2] at h3; cases h3)]; exact h2⟩)
  subst r
  refine ⟨.ref st3.nx, st3.add (.dct [] false), ?_, k.trans Keep.add⟩
  unfold p_System_locked_items runB b_System_locked_items
  show outV (sSeq _ _ [some (.ref s), none, none, none] st) = _
  rw [sSeq_nx (σ1 := [some (.ref s), some (.ref st.nx), none, none]) (st1 := st3) (by unfold sLocks; rw [id2_at S rfl]; exact e)]
  have nn : (st.nx = st3.nx) = False := by have := Sto.lt_nx hr; simp; omega
  simp [sRet, mLock, idE, mVar, lockE, hr, mDc, mwE, walkV, Res.bind, Sto.get_add, nn, cpGo, chk, wipeP, Res.toS, outV]
theorem relock_at {st : Sto} {E : SE} {s d : Nat} {step : Int} {pg : List (Int × Nat)} (S : Sys st E s step d pg) (x : PV) : ∃ st', p_Stack_relock [.ref E.sk, x] st = .ok .non st' ∧ Keep st st' := by
  have hr := S.e
  have hd := S.sk
  have n1 := Sto.lt_nx hr
  have n2 := Sto.lt_nx hd
  have a1 : ∀ k, (E.rw_ = st.nx + k) = False := fun k => by simp; omega
  have a2 : (E.rw_ = st.nx) = False := by simp; omega
  have a3 : ∀ k, (E.sk = st.nx + k) = False := fun k => by simp; omega
  have a4 : (E.sk = st.nx) = False := by simp; omega
  have g1 : ∀ k, st.get (st.nx + k) = none := fun k => by unfold Sto.get Sto.nx; simp
  have g2 : st.get st.nx = none := by unfold Sto.get Sto.nx; simp
  have c0 : ∀ lo hi, cutP ([] : List PV) lo hi = [] := fun lo hi => by simp [cutP]
  unfold p_Stack_relock runB b_Stack_relock
  simp [slots, sSeq, sLocks, sLockL, idE, sSet, mLc, mwE, mSl, moNone, moSome, mFld, mVar, insOf, hd, hr, st_row, st_locked, Res.bind, Res.toS, ResS.seq, slP, c0, mkNew, walkV, Sto.get_add, Sto.nx_add, Nat.add_assoc, a1, a2, a3, a4, cpGo, chk, wipeP, tupP, sLock, g1, g2, oAdd, mOp, mB, gLen, lenP, mCons, mNil, oAddL, ownL, sz, sFor, mwR1, big62, rngP, forGo, ResS.unl, Res.unl, sFldM, st_len, st_putLocked, outV]
  exact Keep.set_same (((((((Keep.add.trans Keep.add).trans Keep.add).trans Keep.add).trans Keep.add).trans Keep.add).trans Keep.add).trans Keep.add) hd
theorem settle_at {st : Sto} {E : SE} {s d : Nat} {step : Int} {pg : List (Int × Nat)} (S : Sys st E s step d pg) : ∃ st', p_System_settle [.ref s] st = .ok .non st' ∧ Keep st st' := by
  obtain ⟨s1, e1, k1⟩ := locked_pages_at S
  have S1 := S.keep k1
  have k2 : Keep s1 (s1.set s (.ins 9 (sysF E step 1))) := Keep.set_same Keep.refl S1.a
  have S2 := S1.keep k2
  obtain ⟨x, s3, e3, k3⟩ := locked_items_at S2
  have S3 := S2.keep k3
  obtain ⟨s4, e4, k4⟩ := relock_at S3 x
  refine ⟨s4, ?_, ((k1.trans k2).trans k3).trans k4⟩
  unfold p_System_settle runB b_System_settle
  simp [slots, sSeq, sFldM, mB, mCons, mNil, mFld, mVar, Res.bind, insOf, S.a, sys_most, mMeth, gp_System_locked_pages, gp_System_locked_items, gp_Stack_relock, e1, gOr, gMax2, Res.toS, S1.a, sys_len, sys_putMost, ResS.seq, sExpr, S2.a, sys_stack, S2.sk, e3, e4, outV]
theorem tidy_at {st : Sto} {E : SE} {s d : Nat} {step : Int} {pg : List (Int × Nat)} (S : Sys st E s step d pg) (hl : pg.length < 90000) : ∃ st', p_tidy [.ref s] st = .ok .non st' ∧ Keep st st' := by
  have k0 : Keep st (st.add (.dct [] false)) := Keep.add
  have S0 := S.keep k0
  obtain ⟨it, s1, e1, h1, m1, k1⟩ := places_at S0 hl
  have S1 := S0.keep k1
  have k2 : Keep s1 (s1.add (.lst [])) := Keep.add
  have S2 := S1.keep k2
  have h2 : (s1.add (.lst [])).get s1.nx = some (.lst []) := get_add_new
  obtain ⟨s3, e3, k3⟩ := settle_at S2
  refine ⟨s3, ?_, ((k0.trans k1).trans k2).trans k3⟩
  have x1 : p_tidy [.ref s] st = outV (b_tidy [some (.ref s), none, none, none, none, none] st) := rfl
  rw [x1]
  unfold b_tidy
  rw [sSeq_nx (σ1 := [some (.ref s), some (.ref st.nx), none, none, none, none]) (st1 := st.add (.dct [] false)) (by rfl)]
  have ew : mwE (mCall p_places gp_places (mCons (mVar 0) mNil)) [some (.ref s), some (.ref st.nx), none, none, none, none] (st.add (.dct [] false)) = .ok (it, [((st.add (.dct [] false)).nx, .lst it)]) s1 := by
    simp [mwE, mCall, gp_places, mCons, mNil, mVar, Res.bind, e1, walkV, h1]
  obtain ⟨σ', st', ef, ⟨v2, v3, hσ⟩, hs⟩ := forGo_inv (gd := [((st.add (.dct [] false)).nx, .lst it)]) (g := gT 2 (gsCons (gN 2) (gsCons (gN 3) gsNil))) (b := (sIf (mAndT (mTru (mOp oNotN (mFld 6 "source" (mVar 3)) (mC .non))) (mTru (mOp oEq (mIx (mFld 6 "source" (mVar 3)) (mC (.int 0))) (mC (.str "object")))))
    sStuck
    sSkip)) (fun σ s2 => (∃ v2 v3, σ = [some (.ref s), some (.ref st.nx), v2, v3, none, none]) ∧ s2 = s1) (fun σ s2 ⟨_, h⟩ => by simp [chk, h, h1]) it (fun y hy σ s2 ⟨⟨v2, v3, hσ⟩, hs2⟩ => by
      obtain ⟨u, p, hp, rfl⟩ := m1 y hy
      obtain ⟨r, sh, ix, stp, hm⟩ := S1.mp p hp
      subst hσ
      subst hs2
      refine ⟨[some (.ref s), some (.ref st.nx), some u, some (.ref p.2), none, none], [some (.ref s), some (.ref st.nx), some u, some (.ref p.2), none, none], s2, rfl, ?_, ⟨_, _, rfl⟩, rfl⟩
      rw [sIf_ff (st1 := s2) (by simp [mAndT, mTru, mOp, mFld, mVar, mC, Res.bind, insOf, hm, mp_source, oNotN, truP])]
      rfl) [some (.ref s), some (.ref st.nx), none, none, none, none] s1 ⟨⟨none, none, rfl⟩, rfl⟩
  subst hσ
  subst hs
  rw [sSeq_nx (σ1 := [some (.ref s), some (.ref st.nx), v2, v3, none, none]) (st1 := st') (by
    unfold sFor
    rw [ew]
    exact ef)]
  simp [sSeq, sFor, mwE, mB, mCons, mNil, mFld, mVar, Res.bind, Res.toS, ResS.seq, insOf, S1.a, sys_objects, gOr, gNewL, lisL, lstOf, S1.c, lisD, keysD, walkV, h2, forGo, chk, sExpr, mMeth, gp_System_settle, S2.a, e3, outV]
theorem done_at {st : Sto} {E : SE} {s d : Nat} {step : Int} {pg : List (Int × Nat)} (S : Sys st E s step d pg) (hl : pg.length < 90000) : ∃ st', p_System_done [.ref s] st = .ok .non st' ∧ Sys st' E s (step + 1) d pg ∧ But s st st' := by
  obtain ⟨s1, e1, k1⟩ := tidy_at S hl
  have S1 := S.keep k1
  have old : ∀ m o, m ≠ s → s1.get m = some o → (s1.set s (.ins 9 (sysF E (step + 1) 1))).get m = some o := fun m o h q => by rw [Sto.get_set, if_neg h]; exact q
  have nes : ∀ m o, s1.get m = some o → (∀ fs, o ≠ .ins 9 fs) → m ≠ s := fun m o q h z => by rw [z, S1.a] at q; cases q; exact h _ rfl
  refine ⟨s1.set s (.ins 9 (sysF E (step + 1) 1)), ?_, ⟨get_set_same S1.a, old _ _ (nes _ _ S1.b (fun _ z => nomatch z)) S1.b, old _ _ (nes _ _ S1.c (fun _ z => nomatch z)) S1.c, old _ _ (nes _ _ S1.sk (fun _ z => by cases z)) S1.sk, old _ _ (nes _ _ S1.e (fun _ z => nomatch z)) S1.e, old _ _ (nes _ _ S1.f (fun _ z => nomatch z)) S1.f, S1.n1, S1.n2, S1.n3, S1.nd, fun p hp => by
    obtain ⟨r, sh, ix, stp, h⟩ := S1.mp p hp
    exact ⟨r, sh, ix, stp, old _ _ (nes _ _ h (fun _ z => by cases z)) h⟩⟩, ⟨by rw [Sto.nx_set]; exact k1.nx, fun m h1 h2 => by rw [Sto.get_set, if_neg h2]; exact k1.eq m h1⟩⟩
  unfold p_System_done runB b_System_done
  simp [slots, sSeq, sExpr, mCall, gp_tidy, mCons, mNil, mVar, Res.bind, e1, Res.toS, ResS.seq, sFldAdd, insOf, S1.a, sys_step, mC, sys_len, sys_putStep, outV]
end LW
set_option linter.all false
set_option maxRecDepth 100000
set_option maxHeartbeats 8000000
namespace LW
open MP PySem L2
/-- a dict whose keys are the ints of h -/
def Dic (st : Sto) (n : Nat) (h : Int → Bool) : Prop := ∃ kvs, st.get n = some (.dct kvs false) ∧ ∀ i : Int, kfit kvs false (.int i) = true ∧ (dgetP kvs (.int i)).isSome = h i
theorem Dic.keep {st st' : Sto} {n : Nat} {h : Int → Bool} (D : Dic st n h) (k : Keep st st') : Dic st' n h := by
  obtain ⟨kvs, a, b⟩ := D
  exact ⟨kvs, k.get a, b⟩
theorem Dic.inn {st : Sto} {n : Nat} {h : Int → Bool} (D : Dic st n h) (i : Int) : oIn false (.int i) (.ref n) st = .ok (.bl (h i)) st := by
  obtain ⟨kvs, a, b⟩ := D
  simp [oIn, inP, a, (b i).1, (b i).2]
theorem Sys.dic {st : Sto} {E : SE} {s d : Nat} {step : Int} {pg : List (Int × Nat)} (S : Sys st E s step d pg) : Dic st d (has pg) := ⟨kv pg, S.f, fun i => ⟨kv_fit pg i, has_get pg i⟩⟩
def nxt (h : Int → Bool) (fr p : Int) : Int := if h p = true then 0 else fr + 1
def gapGo (h : Int → Bool) (many : Int) : List Int → Int → Option Int
  | [], _ => none
  | p :: ps, fr => if nxt h fr p = many then some (p - many + 1) else gapGo h many ps (nxt h fr p)
def widGo (h : Int → Bool) : List Int → Int → Int → Int
  | [], b, _ => b
  | p :: ps, b, fr => widGo h ps (if nxt h fr p > b then nxt h fr p else b) (nxt h fr p)
def optI : Option Int → PV
  | none => .non
  | some x => .int x
def pages : List Int := (List.range 512).map fun (i : Nat) => (0 : Int) + (i : Int)
theorem rng_pages : rngP 0 512 = pages.map .int := by
  unfold rngP pages
  rw [List.map_map]
  rfl
abbrev gB : MS := (sSeq (sSet 2 (mIf (mTru (mOp (oIn false) (mVar 3) (mVar 0))) (mC (.int 0)) (mOp oAdd (mVar 2) (mC (.int 1)))))
    (sIf (mTru (mOp oEq (mVar 2) (mVar 1)))
    (sRet (mOp oAdd (mOp oSub (mVar 3) (mVar 1)) (mC (.int 1))))
    sSkip))
abbrev lB : MS := (sSeq (sSet 2 (mOp oAdd (mVar 2) (mC (.int 1))))
    (sSeq (sIf (mTru (mOp (oIn false) (mVar 3) (mVar 0)))
    (sSet 2 (mC (.int 0)))
    sSkip)
    (sIf (mTru (mOp oEq (mVar 2) (mVar 1)))
    (sRet (mOp oAdd (mOp oSub (mVar 3) (mVar 1)) (mC (.int 1))))
    sSkip)))
theorem eqi (i j : Int) (st : Sto) : oEq (.int i) (.int j) st = .ok (.bl (i == j)) st := by
  simp [oEq, eqN, seqOf, lstOf, eqS, vOf, eqV]
theorem nei (i j : Int) (st : Sto) : oNe (.int i) (.int j) st = .ok (.bl (!(i == j))) st := by
  simp [oNe, eqN, seqOf, lstOf, eqS, vOf, eqV]
theorem gB_at {st : Sto} {n : Nat} {h : Int → Bool} (D : Dic st n h) (many fr p : Int) : gB [some (.ref n), some (.int many), some (.int fr), some (.int p)] st =
    if nxt h fr p = many then .rt (.int (p - many + 1)) st else .nx [some (.ref n), some (.int many), some (.int (nxt h fr p)), some (.int p)] st := by
  have e := D.inn p
  unfold nxt
  cases hp : h p with
  | true =>
    rw [hp] at e
    by_cases q : (0 : Int) = many
    · simp [gB, sSeq, sSet, mIf, mTru, mOp, mVar, mC, Res.bind, e, truP, Res.toS, ResS.seq, sIf, eqi, q, sRet, oSub, oAdd, opII]
    · simp [gB, sSeq, sSet, mIf, mTru, mOp, mVar, mC, Res.bind, e, truP, Res.toS, ResS.seq, sIf, eqi, q, sSkip]
  | false =>
    rw [hp] at e
    by_cases q : fr + 1 = many
    · simp [gB, sSeq, sSet, mIf, mTru, mOp, mVar, mC, Res.bind, e, truP, Res.toS, ResS.seq, sIf, eqi, q, sRet, oSub, oAdd, opII]
    · simp [gB, sSeq, sSet, mIf, mTru, mOp, mVar, mC, Res.bind, e, truP, Res.toS, ResS.seq, sIf, eqi, q, sSkip, oAdd]
theorem lB_at {st : Sto} {n : Nat} {h : Int → Bool} (D : Dic st n h) (many fr p : Int) : lB [some (.ref n), some (.int many), some (.int fr), some (.int p)] st =
    if nxt h fr p = many then .rt (.int (p - many + 1)) st else .nx [some (.ref n), some (.int many), some (.int (nxt h fr p)), some (.int p)] st := by
  have e := D.inn p
  unfold nxt
  cases hp : h p with
  | true =>
    rw [hp] at e
    by_cases q : (0 : Int) = many
    · simp [lB, sSeq, sSet, mTru, mOp, mVar, mC, Res.bind, e, truP, Res.toS, ResS.seq, sIf, eqi, q, sRet, oSub, oAdd, opII]
    · simp [lB, sSeq, sSet, mTru, mOp, mVar, mC, Res.bind, e, truP, Res.toS, ResS.seq, sIf, eqi, q, sSkip, oAdd]
  | false =>
    rw [hp] at e
    by_cases q : fr + 1 = many
    · simp [lB, sSeq, sSet, mTru, mOp, mVar, mC, Res.bind, e, truP, Res.toS, ResS.seq, sIf, eqi, q, sRet, oSub, oAdd, opII, sSkip]
    · simp [lB, sSeq, sSet, mTru, mOp, mVar, mC, Res.bind, e, truP, Res.toS, ResS.seq, sIf, eqi, q, sSkip, oAdd]
theorem gap_loop {B : MS} {st : Sto} {n : Nat} {h : Int → Bool} {many : Int} (hB : ∀ fr p : Int, B [some (.ref n), some (.int many), some (.int fr), some (.int p)] st = if nxt h fr p = many then .rt (.int (p - many + 1)) st else .nx [some (.ref n), some (.int many), some (.int (nxt h fr p)), some (.int p)] st) :
    ∀ (is : List Int) (fr : Int) (v : Option PV), match gapGo h many is fr with
      | some x => forGo [] (gN 3) B (is.map .int) [some (.ref n), some (.int many), some (.int fr), v] st = .rt (.int x) st
      | none => ∃ σ, forGo [] (gN 3) B (is.map .int) [some (.ref n), some (.int many), some (.int fr), v] st = .nx σ st
  | [], fr, v => ⟨_, rfl⟩
  | p :: ps, fr, v => by
    have e := hB fr p
    unfold gapGo
    by_cases q : nxt h fr p = many
    · rw [if_pos q] at e ⊢
      show forGo [] (gN 3) B (.int p :: ps.map .int) _ st = _
      unfold forGo
      simp only [chk, List.all_nil, if_true, gN, List.set_cons_zero, List.set_cons_succ, e, ResS.loop]
    · rw [if_neg q] at e ⊢
      have ih := gap_loop hB ps (nxt h fr p) (some (.int p))
      have e2 : forGo [] (gN 3) B (.int p :: ps.map .int) [some (.ref n), some (.int many), some (.int fr), v] st = forGo [] (gN 3) B (ps.map .int) [some (.ref n), some (.int many), some (.int (nxt h fr p)), some (.int p)] st := by
        rw [forGo]
        simp only [chk, List.all_nil, if_true, gN, List.set_cons_zero, List.set_cons_succ, e, ResS.loop]
      rw [List.map_cons, e2]
      exact ih
theorem big512 : big62 512 = true := by unfold big62; simp
theorem gap_in_at {st : Sto} {n : Nat} {h : Int → Bool} (D : Dic st n h) (many : Int) : p_gap_in [.ref n, .int many] st = .ok (optI (gapGo h many pages 0)) st := by
  have l := gap_loop (gB_at D many) pages 0 none
  show outV (b_gap_in [some (.ref n), some (.int many), none, none] st) = _
  unfold b_gap_in
  rw [sSeq_nx (σ1 := [some (.ref n), some (.int many), some (.int 0), none]) (st1 := st) (by rfl)]
  have ew : mwR1 (mCons (mC (.int 512)) mNil) [some (.ref n), some (.int many), some (.int 0), none] st = .ok (pages.map .int, []) st := by
    simp [mwR1, mCons, mNil, mC, Res.bind, big512, ← rng_pages]
  cases hg : gapGo h many pages 0 with
  | some x =>
    rw [hg] at l
    rw [sSeq_rt (x := .int x) (st1 := st) (by unfold sFor; rw [ew]; exact l)]
    rfl
  | none =>
    rw [hg] at l
    obtain ⟨σ, l⟩ := l
    rw [sSeq_nx (σ1 := σ) (st1 := st) (by unfold sFor; rw [ew]; exact l)]
    rfl
theorem fits_at {st : Sto} {n : Nat} {h : Int → Bool} (D : Dic st n h) (many : Int) : p__law_fits [.ref n, .int many] st = .ok (optI (gapGo h many pages 0)) st := by
  have l := gap_loop (lB_at D many) pages 0 none
  show outV (b__law_fits [some (.ref n), some (.int many), none, none] st) = _
  unfold b__law_fits
  rw [sSeq_nx (σ1 := [some (.ref n), some (.int many), some (.int 0), none]) (st1 := st) (by rfl)]
  have ew : mwR1 (mCons (mC (.int 512)) mNil) [some (.ref n), some (.int many), some (.int 0), none] st = .ok (pages.map .int, []) st := by
    simp [mwR1, mCons, mNil, mC, Res.bind, big512, ← rng_pages]
  cases hg : gapGo h many pages 0 with
  | some x =>
    rw [hg] at l
    rw [sSeq_rt (x := .int x) (st1 := st) (by unfold sFor; rw [ew]; exact l)]
    rfl
  | none =>
    rw [hg] at l
    obtain ⟨σ, l⟩ := l
    rw [sSeq_nx (σ1 := σ) (st1 := st) (by unfold sFor; rw [ew]; exact l)]
    rfl
end LW
set_option linter.all false
set_option maxRecDepth 100000
set_option maxHeartbeats 8000000
namespace LW
open MP PySem L2
abbrev wB : MS := (sSeq (sSet 3 (mIf (mTru (mOp (oIn false) (mVar 4) (mIx (mFld 9 "spaces" (mVar 0)) (mVar 1)))) (mC (.int 0)) (mOp oAdd (mVar 3) (mC (.int 1)))))
    (sSet 2 (mB (gOr gMax2 (gL1 maxL)) (mCons (mVar 2) (mCons (mVar 3) mNil)))))
abbrev vB : MS := (sSeq (sSet 2 (mOp oAdd (mVar 2) (mC (.int 1))))
    (sSeq (sIf (mTru (mOp (oIn false) (mVar 3) (mVar 0)))
    (sSet 2 (mC (.int 0)))
    sSkip)
    (sSet 1 (mB (gOr gMax2 (gL1 maxL)) (mCons (mVar 1) (mCons (mVar 2) mNil))))))
theorem wB_at {st : Sto} {E : SE} {s d : Nat} {step : Int} {pg : List (Int × Nat)} (S : Sys st E s step d pg) (b fr p : Int) : wB [some (.ref s), some (.int 1), some (.int b), some (.int fr), some (.int p)] st =
    .nx [some (.ref s), some (.int 1), some (.int (if nxt (has pg) fr p > b then nxt (has pg) fr p else b)), some (.int (nxt (has pg) fr p)), some (.int p)] st := by
  have e := S.dic.inn p
  have ix := ix_space (σ := [some (.ref s), some (.int 1), some (.int b), some (.int fr), some (.int p)]) (i := 1) S.a S.b rfl rfl
  have v4 : mVar 4 [some (.ref s), some (.int 1), some (.int b), some (.int fr), some (.int p)] st = .ok (.int p) st := rfl
  have t : mTru (mOp (oIn false) (mVar 4) (mIx (mFld 9 "spaces" (mVar 0)) (mVar 1))) [some (.ref s), some (.int 1), some (.int b), some (.int fr), some (.int p)] st = .ok (has pg p) st := by
    simp only [mTru, mOp, v4, ix, Res.bind, e, truP]
  unfold nxt wB sSeq sSet mIf
  rw [t]
  cases hp : has pg p with
  | true => simp [mC, Res.bind, Res.toS, ResS.seq, mB, mCons, mNil, mVar, gOr, gMax2]
  | false => simp [mC, Res.bind, Res.toS, ResS.seq, mB, mCons, mNil, mVar, gOr, gMax2, mOp, oAdd]
theorem vB_at {st : Sto} {n : Nat} {h : Int → Bool} (D : Dic st n h) (b fr p : Int) : vB [some (.ref n), some (.int b), some (.int fr), some (.int p)] st =
    .nx [some (.ref n), some (.int (if nxt h fr p > b then nxt h fr p else b)), some (.int (nxt h fr p)), some (.int p)] st := by
  have e := D.inn p
  unfold nxt
  cases hp : h p with
  | true =>
    rw [hp] at e
    simp [vB, sSeq, sSet, mTru, mOp, mVar, mC, Res.bind, e, truP, Res.toS, ResS.seq, sIf, oAdd, mB, mCons, mNil, gOr, gMax2]
  | false =>
    rw [hp] at e
    simp [vB, sSeq, sSet, mTru, mOp, mVar, mC, Res.bind, e, truP, Res.toS, ResS.seq, sIf, oAdd, mB, mCons, mNil, gOr, gMax2, sSkip]
theorem wid_loop {B : MS} {j : Nat} {st : Sto} {h : Int → Bool} {f : Int → Int → Option PV → Sl} (hs : ∀ b fr v (p : Int), (f b fr v).set j (some (.int p)) = f b fr (some (.int p))) (hB : ∀ b fr p : Int, B (f b fr (some (.int p))) st = .nx (f (if nxt h fr p > b then nxt h fr p else b) (nxt h fr p) (some (.int p))) st) :
    ∀ (is : List Int) (b fr : Int) (v : Option PV), ∃ fr' v', forGo [] (gN j) B (is.map .int) (f b fr v) st = .nx (f (widGo h is b fr) fr' v') st
  | [], b, fr, v => ⟨fr, v, rfl⟩
  | p :: ps, b, fr, v => by
    obtain ⟨fr', v', ih⟩ := wid_loop hs hB ps (if nxt h fr p > b then nxt h fr p else b) (nxt h fr p) (some (.int p))
    refine ⟨fr', v', ?_⟩
    rw [List.map_cons, forGo]
    simp only [chk, List.all_nil, if_true, gN, hs, hB, ResS.loop]
    exact ih
theorem check_ok {st : Sto} {E : SE} {s d : Nat} {step : Int} {pg : List (Int × Nat)} (S : Sys st E s step d pg) : p_check_process [.ref s, .int 1] st = .ok .non st := by
  have e : oIn true (.int 1) (.ref E.sp) st = .ok (.bl false) st := by
    unfold oIn inP
    simp only [S.b]
    rfl
  unfold p_check_process runB b_check_process
  simp [slots, sIf, mOrT, mNotT, mTru, mCall, gp_is_integer, mCons, mNil, mVar, Res.bind, isint_int, truP, mOp, mFld, insOf, S.a, sys_spaces, e, Res.toS, sSkip, outV]
/-- no process of the system -/
def NoP (st : Sto) (x : PV) : Prop := p_is_integer [x] st = .ok (.bl false) st ∨ ∃ i : Int, x = .int i ∧ i ≠ 1
theorem check_bad {st : Sto} {E : SE} {s d : Nat} {step : Int} {pg : List (Int × Nat)} (S : Sys st E s step d pg) {x : PV} (h : NoP st x) : p_check_process [.ref s, x] st = .err ⟨2, [("process", x)]⟩ st := by
  unfold p_check_process runB b_check_process
  rcases h with h | ⟨i, rfl, h⟩
  · simp [slots, sIf, mOrT, mNotT, mTru, mCall, gp_is_integer, mCons, mNil, mVar, Res.bind, h, truP, Res.toS, sRaise1, outV]
  · have e : oIn true (.int i) (.ref E.sp) st = .ok (.bl true) st := by
      have := kv_none (al := [(1, d)]) (i := i) (fun p hp => by
        rw [List.mem_singleton.mp hp]
        exact Ne.symm h)
      have g : dgetP [(.int 1, .ref d)] (.int i) = none := this
      have k : kfit [(.int 1, .ref d)] false (.int i) = true := kv_fit [(1, d)] i
      simp [oIn, inP, S.b, k, g]
    simp [slots, sIf, mOrT, mNotT, mTru, mCall, gp_is_integer, mCons, mNil, mVar, Res.bind, isint_int, truP, mOp, mFld, insOf, S.a, sys_spaces, e, Res.toS, sRaise1, outV]
theorem widest_at {st : Sto} {E : SE} {s d : Nat} {step : Int} {pg : List (Int × Nat)} (S : Sys st E s step d pg) : p_widest [.ref s, .int 1] st = .ok (.int (widGo (has pg) pages 0 0)) st := by
  obtain ⟨fr', v', l⟩ := wid_loop (B := wB) (j := 4) (st := st) (h := has pg) (f := fun b fr v => [some (.ref s), some (.int 1), some (.int b), some (.int fr), v]) (fun _ _ _ _ => rfl) (fun b fr p => wB_at S b fr p) pages 0 0 none
  show outV (b_widest [some (.ref s), some (.int 1), none, none, none] st) = _
  unfold b_widest
  rw [sSeq_nx (σ1 := [some (.ref s), some (.int 1), none, none, none]) (st1 := st) (by simp [sExpr, mCall, gp_check_process, mCons, mNil, mVar, Res.bind, check_ok S, Res.toS])]
  rw [sSeq_nx (σ1 := [some (.ref s), some (.int 1), some (.int 0), some (.int 0), none]) (st1 := st) (by rfl)]
  have ew : mwR1 (mCons (mC (.int 512)) mNil) [some (.ref s), some (.int 1), some (.int 0), some (.int 0), none] st = .ok (pages.map .int, []) st := by
    simp [mwR1, mCons, mNil, mC, Res.bind, big512, ← rng_pages]
  rw [sSeq_nx (σ1 := [some (.ref s), some (.int 1), some (.int (widGo (has pg) pages 0 0)), some (.int fr'), v']) (st1 := st) (by unfold sFor; rw [ew]; exact l)]
  rfl
theorem lwidest_at {st : Sto} {n : Nat} {h : Int → Bool} (D : Dic st n h) : p__law_widest [.ref n] st = .ok (.int (widGo h pages 0 0)) st := by
  obtain ⟨fr', v', l⟩ := wid_loop (B := vB) (j := 3) (st := st) (h := h) (f := fun b fr v => [some (.ref n), some (.int b), some (.int fr), v]) (fun _ _ _ _ => rfl) (fun b fr p => vB_at D b fr p) pages 0 0 none
  show outV (b__law_widest [some (.ref n), none, none, none] st) = _
  unfold b__law_widest
  rw [sSeq_nx (σ1 := [some (.ref n), some (.int 0), none, none]) (st1 := st) (by rfl)]
  rw [sSeq_nx (σ1 := [some (.ref n), some (.int 0), some (.int 0), none]) (st1 := st) (by rfl)]
  have ew : mwR1 (mCons (mC (.int 512)) mNil) [some (.ref n), some (.int 0), some (.int 0), none] st = .ok (pages.map .int, []) st := by
    simp [mwR1, mCons, mNil, mC, Res.bind, big512, ← rng_pages]
  rw [sSeq_nx (σ1 := [some (.ref n), some (.int (widGo h pages 0 0)), some (.int fr'), v']) (st1 := st) (by unfold sFor; rw [ew]; exact l)]
  rfl
theorem gap_at {st : Sto} {E : SE} {s d : Nat} {step : Int} {pg : List (Int × Nat)} (S : Sys st E s step d pg) {many : Int} (h1 : 1 ≤ many) (h2 : many ≤ 512) : p_gap [.ref s, .int 1, .int many] st = .ok (optI (gapGo (has pg) many pages 0)) st := by
  have ix := ix_space (σ := [some (.ref s), some (.int 1), some (.int many)]) (i := 1) S.a S.b rfl rfl
  have g := gap_in_at S.dic many
  have b : p_is_between [.int many, .int 1, .int 512] st = .ok (.bl true) st := by
    rw [btw_at (x := .int many) trivial]
    simp [inB, h1, h2]
  have v2 : mVar 2 [some (.ref s), some (.int 1), some (.int many)] st = .ok (.int many) st := rfl
  show outV (b_gap [some (.ref s), some (.int 1), some (.int many)] st) = _
  unfold b_gap
  rw [sSeq_nx (σ1 := [some (.ref s), some (.int 1), some (.int many)]) (st1 := st) (by simp [sExpr, mCall, gp_check_process, mCons, mNil, mVar, Res.bind, check_ok S, Res.toS])]
  rw [sSeq_nx (σ1 := [some (.ref s), some (.int 1), some (.int many)]) (st1 := st) (by simp [sIf, mNotT, mTru, mCall, gp_is_between, mCons, mNil, mVar, mC, Res.bind, b, truP, Res.toS, sSkip])]
  simp only [sRet, mCall, gp_gap_in, mCons, mNil, ix, v2, Res.bind, g]
  simp [Res.toS, outV]
end LW
set_option linter.all false
set_option maxRecDepth 100000
set_option maxHeartbeats 8000000
namespace LW
open MP PySem L2
def rmv (pg : List (Int × Nat)) (i : Int) : List (Int × Nat) := pg.filter fun p => decide (p.1 ≠ i)
def rmAll : List (Int × Nat) → List Int → List (Int × Nat)
  | pg, [] => pg
  | pg, i :: is => rmAll (rmv pg i) is
theorem has_rmv (pg : List (Int × Nat)) (i j : Int) : has (rmv pg i) j = (has pg j && !(j == i)) := by
  unfold has rmv
  rw [List.any_filter]
  induction pg with
  | nil => rfl
  | cons p r ih =>
    rw [List.any_cons, List.any_cons, ih]
    by_cases q : p.1 = j
    · by_cases z : j = i
      · simp [q, z]
      · simp [q, z]
    · have : (p.1 == j) = false := by simp [q]
      simp [this]
theorem has_rmAll : ∀ (is : List Int) (pg : List (Int × Nat)) (j : Int), has (rmAll pg is) j = (has pg j && !(is.contains j))
  | [], pg, j => by simp [rmAll]
  | i :: is, pg, j => by
    show has (rmAll (rmv pg i) is) j = _
    rw [has_rmAll is, has_rmv, List.contains_cons]
    cases has pg j <;> cases (j == i) <;> cases is.contains j <;> rfl
theorem rmAll_sub : ∀ (is : List Int) (pg : List (Int × Nat)), (rmAll pg is).Sublist pg
  | [], pg => List.Sublist.refl _
  | i :: is, pg => (rmAll_sub is (rmv pg i)).trans List.filter_sublist
theorem kv_ddel (pg : List (Int × Nat)) (i : Int) : ddelP (kv pg) (.int i) = kv (rmv pg i) := by
  unfold ddelP kv rmv
  rw [List.filter_map]
  congr 1
  refine List.filter_congr fun p _ => ?_
  simp
theorem has_mem {pg : List (Int × Nat)} {i : Int} (h : has pg i = true) : ∃ m, (i, m) ∈ pg := by
  obtain ⟨p, hp, e⟩ := List.any_eq_true.mp h
  have : p.1 = i := by simpa using e
  exact ⟨p.2, by rw [← this]; exact hp⟩
theorem rmv_none {pg : List (Int × Nat)} {i : Int} (h : has pg i = false) : rmv pg i = pg := by
  unfold rmv
  refine List.filter_eq_self.mpr fun p hp => ?_
  unfold has at h
  rw [List.any_eq_false] at h
  have := h p hp
  simpa using this
theorem Sys.sub {st : Sto} {E : SE} {s d : Nat} {step : Int} {pg pg' : List (Int × Nat)} (S : Sys st E s step d pg) (h : pg'.Sublist pg) : Sys (st.set d (.dct (kv pg') false)) E s step d pg' := by
  have old : ∀ m o, m ≠ d → st.get m = some o → (st.set d (.dct (kv pg') false)).get m = some o := fun m o h k => by rw [Sto.get_set, if_neg h]; exact k
  refine ⟨old _ _ (ne_get S.a S.f (fun z => nomatch z)) S.a, old _ _ (Ne.symm S.n2) S.b, old _ _ (Ne.symm S.n3) S.c, old _ _ (ne_get S.sk S.f (fun z => nomatch z)) S.sk, old _ _ (ne_get S.e S.f (fun z => nomatch z)) S.e, get_set_same S.f, S.n1, S.n2, S.n3, S.nd.sublist (h.map _), fun p hp => ?_⟩
  obtain ⟨r, sh, ix, stp, hm⟩ := S.mp p (h.subset hp)
  exact ⟨r, sh, ix, stp, old _ _ (ne_get hm S.f (fun z => nomatch z)) hm⟩
theorem mIx_ok {fa fb : ME} {σ : Sl} {st : Sto} {x y v : PV} (ha : fa σ st = .ok x st) (hb : fb σ st = .ok y st) (hv : ixP x y st = some v) : mIx fa fb σ st = .ok v st := by
  unfold mIx
  rw [ha]
  simp only [Res.bind]
  rw [hb]
  simp only [Res.bind, hv]
theorem ix_sp {st : Sto} {E : SE} {s d : Nat} {step : Int} {pg : List (Int × Nat)} (S : Sys st E s step d pg) : ixP (.ref E.sp) (.int 1) st = some (.ref d) := by
  unfold ixP
  simp only [S.b]
  rfl
theorem letgo_at {st : Sto} {E : SE} {s d m : Nat} {step i : Int} {pg : List (Int × Nat)} (S : Sys st E s step d pg) (h : (i, m) ∈ pg) : p_let_go [.ref s, .tup [.int 1, .int i]] st = .ok .non st := by
  obtain ⟨r, sh, ix, stp, hm⟩ := S.mp _ h
  have hm : st.get m = some (.ins 6 (mpF r sh ix stp)) := hm
  have g := kv_get S.nd h
  have g1 : ixP (.ref d) (.int i) st = some (.ref m) := by
    unfold ixP
    simp only [S.f, kv_fit, if_true, g]
  have f := fld_get (i := 0) (σ := [some (.ref s), some (.tup [.int 1, .int i]), none, none]) (n := s) (st := st) (v := .ref E.sp) rfl S.a (sys_spaces _ _ _)
  have e1 := mIx_ok (mIx_ok f (fb := mIx (mVar 1) (mC (.int 0))) (y := .int 1) rfl (ix_sp S)) (fb := mIx (mVar 1) (mC (.int 1))) (y := .int i) rfl g1
  show outV (b_let_go [some (.ref s), some (.tup [.int 1, .int i]), none, none] st) = _
  unfold b_let_go
  rw [sSeq_nx (σ1 := [some (.ref s), some (.tup [.int 1, .int i]), some (.ref m), none]) (sSet_nx e1)]
  rw [sSeq_nx (σ1 := [some (.ref s), some (.tup [.int 1, .int i]), some (.ref m), some .non]) (sSet_nx (fld_get (i := 2) (n := m) (v := .non) rfl hm (mp_held _ _ _ _)))]
  rfl
theorem rm_at {st : Sto} {E : SE} {s d : Nat} {step i : Int} {pg : List (Int × Nat)} (S : Sys st E s step d pg) (h : has pg i = true) : p_remove [.ref s, .tup [.int 1, .int i]] st = .ok .non (st.set d (.dct (kv (rmv pg i)) false)) := by
  obtain ⟨m, hm⟩ := has_mem h
  have e := letgo_at S hm
  have g := kv_get S.nd hm
  have f := fld_get (i := 0) (σ := [some (.ref s), some (.tup [.int 1, .int i])]) (n := s) (st := st) (v := .ref E.sp) rfl S.a (sys_spaces _ _ _)
  have e1 := mIx_ok f (fb := mIx (mVar 1) (mC (.int 0))) (y := .int 1) rfl (ix_sp S)
  have i1 : mIx (mVar 1) (mC (.int 1)) [some (.ref s), some (.tup [.int 1, .int i])] st = .ok (.int i) st := rfl
  show outV (b_remove [some (.ref s), some (.tup [.int 1, .int i])] st) = _
  unfold b_remove
  rw [sSeq_nx (σ1 := [some (.ref s), some (.tup [.int 1, .int i])]) (st1 := st) (by simp [sExpr, mCall, gp_let_go, mCons, mNil, mVar, Res.bind, e, Res.toS])]
  unfold sDel
  rw [e1]
  simp only [Res.toS]
  rw [i1]
  simp [Res.toS, delP, S.f, kv_fit, g, kv_ddel, outV]
def rB (v : Nat) : MS := (sIf (mTru (mOp (oIn false) (mVar v) (mIx (mFld 9 "spaces" (mVar 0)) (mVar 1))))
    (sExpr (mCall p_remove gp_remove (mCons (mVar 0) (mCons (mTup (mCons (mVar 1) (mCons (mVar v) mNil))) mNil))))
    sSkip)
theorem rB_at {st : Sto} {E : SE} {s d v : Nat} {step i : Int} {pg : List (Int × Nat)} {σ : Sl} (S : Sys st E s step d pg) (h0 : σ[0]? = some (some (.ref s))) (h1 : σ[1]? = some (some (.int 1))) (hv : σ[v]? = some (some (.int i))) :
    ∃ st', rB v σ st = .nx σ st' ∧ Sys st' E s step d (rmv pg i) ∧ But d st st' := by
  have e := S.dic.inn i
  have ix := ix_space (i := 1) S.a S.b h0 h1
  have vv : mVar v σ st = .ok (.int i) st := by simp only [mVar, hv]
  have t : mTru (mOp (oIn false) (mVar v) (mIx (mFld 9 "spaces" (mVar 0)) (mVar 1))) σ st = .ok (has pg i) st := by
    simp only [mTru, mOp, vv, ix, Res.bind, e, truP]
  unfold rB
  cases hp : has pg i with
  | true =>
    rw [hp] at t
    have r := rm_at S hp
    refine ⟨_, ?_, S.sub (pg' := rmv pg i) List.filter_sublist, But.set⟩
    rw [sIf_t t]
    simp [sExpr, mCall, gp_remove, mCons, mNil, mTup, mVar, h0, h1, hv, Res.bind, sz, r, Res.toS]
  | false =>
    rw [hp] at t
    refine ⟨st, ?_, by rw [rmv_none hp]; exact S, But.refl⟩
    rw [sIf_f t]
    rfl
theorem rm_loop {E : SE} {s d v : Nat} {step : Int} {f : Option PV → Sl} (hs : ∀ x (y : PV), (f x).set v (some y) = f (some y)) (h0 : ∀ x, (f x)[0]? = some (some (.ref s))) (h1 : ∀ x, (f x)[1]? = some (some (.int 1))) (hv : ∀ y : PV, (f (some y))[v]? = some (some y)) :
    ∀ (is : List Int) (st : Sto) (pg : List (Int × Nat)) (x : Option PV), Sys st E s step d pg → ∃ st' x', forGo [] (gN v) (rB v) (is.map .int) (f x) st = .nx (f x') st' ∧ Sys st' E s step d (rmAll pg is) ∧ But d st st'
  | [], st, pg, x, S => ⟨st, x, rfl, S, But.refl⟩
  | i :: is, st, pg, x, S => by
    obtain ⟨s1, e1, S1, b1⟩ := rB_at (v := v) (i := i) S (h0 (some (.int i))) (h1 (some (.int i))) (hv (.int i))
    obtain ⟨s2, x2, e2, S2, b2⟩ := rm_loop hs h0 h1 hv is s1 (rmv pg i) (some (.int i)) S1
    refine ⟨s2, x2, ?_, S2, b1.trans b2⟩
    rw [List.map_cons, forGo]
    simp only [chk, List.all_nil, if_true, gN, hs, e1, ResS.loop]
    exact e2
def rangeL (b : Int) (n : Nat) : List Int := (List.range n).map fun (i : Nat) => b + (i : Int)
theorem rng_L (b : Int) (n : Nat) : rngP b n = (rangeL b n).map .int := by
  unfold rngP rangeL
  rw [List.map_map]
  rfl
theorem mem_rangeL (b : Int) (n : Nat) (j : Int) : (rangeL b n).contains j = (decide (b ≤ j) && decide (j < b + (n : Int))) := by
  rw [Bool.eq_iff_iff, List.contains_iff_mem]
  unfold rangeL
  simp only [List.mem_map, List.mem_range, Bool.and_eq_true, decide_eq_true_eq]
  constructor
  · rintro ⟨i, h, rfl⟩
    omega
  · rintro ⟨h1, h2⟩
    exact ⟨(j - b).toNat, by omega, by omega⟩
theorem mwR2_at {σ : Sl} {st : Sto} {g : MEs} {b c : Int} (hg : g σ st = .ok [.int b, .int (b + c)] st) (hb : 0 ≤ b) (hb2 : b ≤ 512) (hc : 0 ≤ c) (hc2 : c ≤ 512) : mwR2 g σ st = .ok ((rangeL b c.toNat).map .int, []) st := by
  have b1 : big62 b = true := by unfold big62; simp; omega
  have b2 : big62 (b + c) = true := by unfold big62; simp; omega
  have z : b + c - b = c := by omega
  simp [mwR2, hg, Res.bind, b1, b2, z, ← rng_L]
theorem crange_at {st : Sto} {b c : Int} (h1 : 0 ≤ b) (h2 : b ≤ 511) (h3 : 1 ≤ c) (h4 : c ≤ 512 - b) : p_check_range [.int b, .int c] st = .ok .non st := by
  have e1 : p_is_between [.int b, .int 0, .int 511] st = .ok (.bl true) st := by
    rw [btw_at (x := .int b) trivial]
    simp [inB, h1, h2]
  have e2 : p_is_between [.int c, .int 1, .int (512 - b)] st = .ok (.bl true) st := by
    rw [btw_at (x := .int c) trivial]
    simp [inB, h3, h4]
  unfold p_check_range runB b_check_range
  simp [slots, sSeq, sIf, mNotT, mTru, mCall, gp_is_between, mCons, mNil, mVar, mC, mOp, oSub, opII, Res.bind, e1, e2, truP, Res.toS, ResS.seq, sSkip, outV]
theorem unmap_at {st : Sto} {E : SE} {s d : Nat} {step b c : Int} {pg : List (Int × Nat)} (S : Sys st E s step d pg) (hl : pg.length < 80000) (h1 : 0 ≤ b) (h2 : b ≤ 511) (h3 : 1 ≤ c) (h4 : c ≤ 512 - b) :
    ∃ st', p_unmap [.ref s, .int 1, .int b, .int c] st = .ok .non st' ∧ Sys st' E s (step + 1) d (rmAll pg (rangeL b c.toNat)) ∧ st.nx ≤ st'.nx ∧ ∀ m, m < st.nx → m ≠ s → m ≠ d → st'.get m = st.get m := by
  obtain ⟨s1, x', e1, S1, b1⟩ := rm_loop (f := fun x => [some (.ref s), some (.int 1), some (.int b), some (.int c), x]) (v := 4) (s := s) (fun _ _ => rfl) (fun _ => rfl) (fun _ => rfl) (fun _ => rfl) (rangeL b c.toNat) st pg none S
  have len := (rmAll_sub (rangeL b c.toNat) pg).length_le
  obtain ⟨s2, e2, S2, b2⟩ := done_at S1 (by omega)
  refine ⟨s2, ?_, S2, Nat.le_trans b1.nx b2.nx, fun m q1 q2 q3 => (b2.eq m (Nat.lt_of_lt_of_le q1 b1.nx) q2).trans (b1.eq m q1 q3)⟩
  show outV (b_unmap [some (.ref s), some (.int 1), some (.int b), some (.int c), none] st) = _
  unfold b_unmap
  rw [sSeq_nx (σ1 := [some (.ref s), some (.int 1), some (.int b), some (.int c), none]) (st1 := st) (by simp [sExpr, mCall, gp_check_process, mCons, mNil, mVar, Res.bind, check_ok S, Res.toS])]
  rw [sSeq_nx (σ1 := [some (.ref s), some (.int 1), some (.int b), some (.int c), none]) (st1 := st) (by simp [sExpr, mCall, gp_check_range, mCons, mNil, mVar, Res.bind, crange_at h1 h2 h3 h4, Res.toS])]
  have ew := mwR2_at (g := (mCons (mVar 2) (mCons (mOp oAdd (mVar 2) (mVar 3)) mNil))) (σ := [some (.ref s), some (.int 1), some (.int b), some (.int c), none]) (st := st) (b := b) (c := c) rfl h1 (by omega) (by omega) (by omega)
  rw [sSeq_nx (σ1 := [some (.ref s), some (.int 1), some (.int b), some (.int c), x']) (st1 := s1) (by
    unfold sFor
    rw [ew]
    exact e1)]
  simp [sExpr, mMeth, mVar, mNil, gp_System_done, Res.bind, insOf, S1.a, e2, Res.toS, outV]
end LW
set_option linter.all false
set_option maxRecDepth 100000
set_option maxHeartbeats 8000000
namespace LW
open MP PySem L2
theorem mapped_init {st : Sto} {n : Nat} {r sh ix stp : PV} (h : st.get n = some (.ins 6 [])) : ∃ st', p_Mapped___init__ [.ref n, r, sh, .non, ix, stp] st = .ok .non st' ∧ st'.get n = some (.ins 6 (mpF r sh ix stp)) ∧ st'.nx = st.nx ∧ But n st st' := by
  unfold p_Mapped___init__ runB b_Mapped___init__
  simp (decide := true) [outV, mNil, Res.bind, slots, sSeq, mVar, mC, Res.toS, ResS.seq, sFldM, insOf, putP, mTup, sz, Sto.get_set, Sto.nx_set, h]
  refine ⟨rfl, ⟨by simp [Sto.nx_set], fun m q1 q2 => ?_⟩⟩
  simp [Sto.get_set, q2]
abbrev sm (s : Nat) (c b : Int) (F : Nat) (k x : Option PV) : Sl := [some (.ref s), some (.int 1), some (.int c), some (.str "rw"), some (.bl false), some .non, some (.int 0), some (.int b), some (.bl false), some (.ref F), k, x]
abbrev mkM : ME := (mMake 6 p_Mapped___init__ gp_Mapped___init___kstamp (mCons (mVar 3) (mCons (mVar 4) (mCons (mVar 5) (mCons (mIf (mTru (mOp oIsN (mVar 5) (mC .non))) (mC .non) (mOp oAdd (mVar 6) (mVar 10))) mNil)))) (mCons (mOp oAdd (mFld 9 "step" (mVar 0)) (mC (.int 1))) mNil))
abbrev fB : MS := (sSetIx (mVar 9) (mOp oAdd (mVar 7) (mVar 10)) mkM)
theorem mkM_at {st : Sto} {E : SE} {s d F : Nat} {step c b : Int} {pg : List (Int × Nat)} {k x : Option PV} (S : Sys st E s step d pg) : ∃ st', mkM (sm s c b F k x) st = .ok (.ref st.nx) st' ∧ Mp st' st.nx ∧ st'.nx = st.nx + 1 ∧ Keep st st' := by
  obtain ⟨s1, e1, g1, n1, b1⟩ := mapped_init (st := st.add (.ins 6 [])) (n := st.nx) (r := .str "rw") (sh := .bl false) (ix := .non) (stp := .int (step + 1)) get_add_new
  refine ⟨s1, ?_, ⟨_, _, _, _, g1⟩, by rw [n1, Sto.nx_add], ⟨by have := b1.nx; rw [Sto.nx_add] at this; omega, fun m hm => ?_⟩⟩
  · have f : mFld 9 "step" (mVar 0) (sm s c b F k x) st = .ok (.int step) st := fld_get (i := 0) (n := s) rfl S.a (sys_step _ _ _)
    have a1 : (mCons (mVar 3) (mCons (mVar 4) (mCons (mVar 5) (mCons (mIf (mTru (mOp oIsN (mVar 5) (mC .non))) (mC .non) (mOp oAdd (mVar 6) (mVar 10))) mNil)))) (sm s c b F k x) st = .ok [.str "rw", .bl false, .non, .non] st := rfl
    have a2 : (mCons (mOp oAdd (mFld 9 "step" (mVar 0)) (mC (.int 1))) mNil) (sm s c b F k x) st = .ok [.int (step + 1)] st := by
      simp only [mCons, mOp, f, Res.bind]
      rfl
    unfold mkM mMake
    rw [a1]
    simp only [Res.bind]
    rw [a2]
    simp only [gp_Mapped___init___kstamp, List.cons_append, List.nil_append, Res.bind, e1]
  · rw [b1.eq m (by rw [Sto.nx_add]; omega) (by omega), Sto.get_add, if_neg (by omega)]
theorem kv_put {al : List (Int × Nat)} {i : Int} (h : ∀ p ∈ al, p.1 ≠ i) (m : Nat) : dputP (kv al) (.int i) (.ref m) = kv (al ++ [(i, m)]) := by
  unfold dputP
  rw [if_neg]
  · simp [kv]
  · intro z
    obtain ⟨q, hq, e⟩ := List.any_eq_true.mp z
    obtain ⟨p, hp, rfl⟩ := List.mem_map.mp hq
    have := h p hp
    simp at e
    exact this e
theorem rangeL_succ (b : Int) (n : Nat) : rangeL b (n + 1) = rangeL b n ++ [b + (n : Int)] := by
  unfold rangeL
  rw [List.range_succ, List.map_append]
  rfl
theorem fresh_loop {st0 st : Sto} {E : SE} {s d F : Nat} {step c b : Int} {pg : List (Int × Nat)} (S : Sys st0 E s step d pg) (k0 : Keep st0 st) (hF : st0.nx ≤ F) (gF : st.get F = some (.dct [] false)) (n : Nat) (hn : n ≤ 512) :
    ∃ st' v fr, forGo [] (gN 10) fB (rngP 0 n) (sm s c b F none none) st = .nx (sm s c b F v none) st' ∧ st'.get F = some (.dct (kv fr) false) ∧ fr.map (·.1) = rangeL b n ∧ (∀ p ∈ fr, Mp st' p.2) ∧ Keep st0 st' := by
  obtain ⟨σ', st', e, h⟩ := forGo_idx (gd := []) (g := gN 10) (b := fB) (fun k σ s1 => k ≤ n → ∃ v fr, σ = sm s c b F v none ∧ s1.get F = some (.dct (kv fr) false) ∧ fr.map (·.1) = rangeL b k ∧ (∀ p ∈ fr, Mp s1 p.2) ∧ Keep st0 s1)
    (fun _ _ _ _ => rfl) (rngP 0 n) 0 (fun j x hx σ s1 P => by
      have rl : (rngP 0 n).length = n := by simp [rngP]
      have hj : j < n := by rw [← rl]; exact (List.getElem?_eq_some_iff.mp hx).1
      have ex : x = .int (j : Int) := by
        unfold rngP at hx
        rw [List.getElem?_map, List.getElem?_range hj] at hx
        simp at hx
        exact hx.symm
      obtain ⟨v, fr, rfl, g, hk, hm, k⟩ := P (by omega)
      rw [Nat.zero_add] at hk ⊢
      have S1 := S.keep k
      obtain ⟨s2, e2, m2, n2, k2⟩ := mkM_at (c := c) (b := b) (F := F) (k := some (.int (j : Int))) (x := none) S1
      have g2 := k2.get g
      have fl : fr.length = j := by
        have := congrArg List.length hk
        rw [List.length_map] at this
        rw [this]
        simp [rangeL]
      have ne : ∀ p ∈ fr, p.1 ≠ b + (j : Int) := fun p hp q => by
        have h1 : p.1 ∈ rangeL b j := by rw [← hk]; exact List.mem_map.mpr ⟨p, hp, rfl⟩
        rw [← List.contains_iff_mem, mem_rangeL] at h1
        simp at h1
        omega
      have len : (kv fr).length + 1 ≤ 16777216 := by unfold kv; rw [List.length_map]; omega
      have st3 : ∀ m o, m ≠ F → s2.get m = some o → (s2.set F (.dct (kv (fr ++ [(b + (j : Int), s1.nx)])) false)).get m = some o := fun m o h q => by rw [Sto.get_set, if_neg h]; exact q
      refine ⟨sm s c b F (some (.int (j : Int))) none, sm s c b F (some (.int (j : Int))) none, s2.set F (.dct (kv (fr ++ [(b + (j : Int), s1.nx)])) false), by rw [ex]; rfl, ?_, fun _ => ⟨_, fr ++ [(b + (j : Int), s1.nx)], rfl, get_set_same g2, ?_, ?_, ?_⟩⟩
      · have v9 : mVar 9 (sm s c b F (some (.int (j : Int))) none) s2 = .ok (.ref F) s2 := rfl
        have vi : mOp oAdd (mVar 7) (mVar 10) (sm s c b F (some (.int (j : Int))) none) s2 = .ok (.int (b + (j : Int))) s2 := rfl
        unfold fB sSetIx
        rw [e2]
        simp only [Res.toS, v9, vi, setP, g2, kv_fit, sz, len, kv_put ne, decide_true, and_self, if_true]
      · rw [List.map_append, hk, rangeL_succ]
        rfl
      · intro p hp
        rcases List.mem_append.mp hp with hp | hp
        · obtain ⟨r, sh, ix, stp, h⟩ := (hm p hp).keep k2
          exact ⟨r, sh, ix, stp, st3 _ _ (ne_get h g2 (fun z => nomatch z)) h⟩
        · rw [List.mem_singleton.mp hp]
          obtain ⟨r, sh, ix, stp, h⟩ := m2
          exact ⟨r, sh, ix, stp, st3 _ _ (ne_get h g2 (fun z => nomatch z)) h⟩
      · exact keep_but (k.trans k2) But.set hF) (sm s c b F none none) st (fun _ => ⟨none, [], rfl, gF, rfl, fun _ h => (nomatch h), k0⟩)
  have rl : (rngP 0 n).length = n := by simp [rngP]
  rw [rl, Nat.zero_add] at h
  obtain ⟨v, fr, rfl, g, hk, hm, k⟩ := h (Nat.le_refl _)
  exact ⟨st', v, fr, e, g, hk, hm, k⟩
end LW
set_option linter.all false
set_option maxRecDepth 100000
set_option maxHeartbeats 8000000
namespace LW
open MP PySem L2
theorem keysD_kv {st : Sto} {n : Nat} {pg : List (Int × Nat)} {lk : Bool} (h : st.get n = some (.dct (kv pg) lk)) : keysD (.ref n) st = some (kv pg) := by
  unfold keysD
  simp only [h, kv_keys, if_true]
theorem dstar2_at {fe fk : ME} {σ : Sl} {st : Sto} {n1 n2 : Nat} {a b : List (Int × Nat)} (he : fe σ (st.add (.dct [] false)) = .ok (.ref n1) (st.add (.dct [] false))) (g1 : (st.add (.dct [] false)).get n1 = some (.dct (kv a) false)) (l1 : n1 < st.nx)
    (hf : fk σ (st.add (.dct (kv a) false)) = .ok (.ref n2) (st.add (.dct (kv a) false))) (g2 : (st.add (.dct (kv a) false)).get n2 = some (.dct (kv b) false)) (l2 : n2 < st.nx) (hz : a.length + b.length < 100000) : ∃ st', mDstar2 fe fk σ st = .ok (.ref st.nx) st' ∧ Keep st st' ∧ st'.nx = st.nx + 1 := by
  have k1 := keysD_kv g1
  have k2 := keysD_kv g2
  have q1 : (st.add (.dct [] false)).get st.nx = some (.dct [] false) := get_add_new
  have q2 : (st.add (.dct (kv a) false)).get st.nx = some (.dct (kv a) false) := get_add_new
  have ne1 : n1 ≠ st.nx := by omega
  have ne2 : n2 ≠ st.nx := by omega
  have len : sz ((kv a).length + (kv b).length) = true := by unfold sz kv; rw [List.length_map, List.length_map]; simp; omega
  refine ⟨(st.add (.dct (kv a) false)).set st.nx (.dct (mergeP (kv a) (kv b)) false), ?_, ?_, by rw [Sto.nx_set, Sto.nx_add]⟩
  · unfold mDstar2
    rw [he]
    simp only [Res.bind, k1]
    rw [if_pos ⟨fun z => ne1 (PV.ref.inj z), q1⟩, add_set, hf]
    simp only [Res.bind, k2]
    rw [if_pos ⟨fun z => ne2 (PV.ref.inj z), q2, len, kv_keys a⟩]
  · rw [add_set]
    exact Keep.add
theorem dstar_at {st : Sto} {E : SE} {s d F : Nat} {step c b : Int} {pg fr : List (Int × Nat)} {k x : Option PV} (S : Sys st E s step d pg) (hF : st.get F = some (.dct (kv fr) false)) (hl : pg.length + fr.length < 100000) :
    ∃ v st', mDstar1 (mFld 9 "spaces" (mVar 0)) (mVar 1) (mDstar2 (mIx (mFld 9 "spaces" (mVar 0)) (mVar 1)) (mVar 9)) (sm s c b F k x) st = .ok v st' ∧ Keep st st' := by
  have k0 : Keep st (st.add (.dct [] false)) := Keep.add
  have S0 := S.keep k0
  have f : mFld 9 "spaces" (mVar 0) (sm s c b F k x) (st.add (.dct [] false)) = .ok (.ref E.sp) (st.add (.dct [] false)) := fld_get (i := 0) (n := s) rfl S0.a (sys_spaces _ _ _)
  have kd : keysD (.ref E.sp) (st.add (.dct [] false)) = some [(.int 1, .ref d)] := keysD_kv (pg := [(1, d)]) S0.b
  have lsp := Sto.lt_nx S.b
  have ld := Sto.lt_nx S.f
  have lF := Sto.lt_nx hF
  have q1 : (st.add (.dct [] false)).get st.nx = some (.dct [] false) := get_add_new
  obtain ⟨T, hT⟩ : ∃ T, T = (st.add (.dct [(.int 1, .ref d)] false)).add (.dct [] false) := ⟨_, rfl⟩
  have kT : Keep st T := by rw [hT]; exact Keep.add.trans Keep.add
  have nT : T.nx = st.nx + 2 := by rw [hT, Sto.nx_add, Sto.nx_add]
  have tn : T.get st.nx = some (.dct [(.int 1, .ref d)] false) := by rw [hT]; exact get_add_old get_add_new
  have tn1 : T.get (st.nx + 1) = some (.dct [] false) := by
    rw [hT]
    have := get_add_new (st := st.add (.dct [(.int 1, .ref d)] false)) (o' := .dct [] false)
    rw [Sto.nx_add] at this
    exact this
  have ST := S.keep kT
  obtain ⟨s2, e2, k2, n2⟩ := dstar2_at (σ := sm s c b F k x) (st := T) (fe := mIx (mFld 9 "spaces" (mVar 0)) (mVar 1)) (fk := mVar 9) (n1 := d) (n2 := F) (a := pg) (b := fr) (ix_space (i := 1) (ST.keep Keep.add).a (ST.keep Keep.add).b rfl rfl) (ST.keep Keep.add).f (by omega) rfl (get_add_old (kT.get hF)) (by omega) hl
  refine ⟨.ref st.nx, (s2.set (st.nx + 1) (.dct [(.int 1, .ref T.nx)] false)).set st.nx (.dct (dputP [(.int 1, .ref d)] (.int 1) (.ref T.nx)) false), ?_, ?_⟩
  · unfold mDstar1
    rw [f]
    simp only [Res.bind, kd]
    rw [if_pos ⟨fun z => by have := PV.ref.inj z; omega, q1⟩, add_set, ← hT]
    have v1 : mVar 1 (sm s c b F k x) T = .ok (.int 1) T := rfl
    simp only [v1, Res.bind, e2]
    rw [Sto.nx_add, if_pos ⟨rfl, k2.get tn1, k2.get tn, rfl, rfl⟩]
  · refine ⟨by rw [Sto.nx_set, Sto.nx_set, n2, nT]; omega, fun m hm => ?_⟩
    rw [Sto.get_set, if_neg (by omega), Sto.get_set, if_neg (by omega), k2.eq m (by omega)]
    exact kT.eq m hm
theorem merge_disj : ∀ (fr pg : List (Int × Nat)), (∀ p ∈ fr, ∀ q ∈ pg, q.1 ≠ p.1) → (fr.map (·.1)).Nodup → mergeP (kv pg) (kv fr) = kv (pg ++ fr)
  | [], pg, _, _ => by rw [List.append_nil]; rfl
  | p :: fr, pg, h, nd => by
    have e := kv_put (al := pg) (i := p.1) (h p List.mem_cons_self) p.2
    have ih := merge_disj fr (pg ++ [p]) (fun q hq z hz => by
      rcases List.mem_append.mp hz with hz | hz
      · exact h q (List.mem_cons_of_mem _ hq) z hz
      · rw [List.mem_singleton.mp hz]
        exact fun e => (List.nodup_cons.mp nd).1 (List.mem_map.mpr ⟨q, hq, e.symm⟩)) (List.nodup_cons.mp nd).2
    show mergeP (dputP (kv pg) (.int p.1) (.ref p.2)) (kv fr) = _
    rw [e, ih, List.append_assoc]
    rfl
theorem has_app (a b : List (Int × Nat)) (j : Int) : has (a ++ b) j = (has a j || has b j) := by
  unfold has
  rw [List.any_append]
theorem has_keys : ∀ (fr : List (Int × Nat)) (j : Int), has fr j = (fr.map (·.1)).contains j
  | [], _ => rfl
  | p :: r, j => by
    have ih := has_keys r j
    unfold has at ih ⊢
    rw [List.any_cons, List.map_cons, List.contains_cons, ih]
    congr 1
    rw [Bool.eq_iff_iff]
    simp
    exact ⟨fun h => h.symm, fun h => h.symm⟩
theorem rangeL_nodup (b : Int) (n : Nat) : (rangeL b n).Nodup := by
  unfold rangeL
  refine List.Pairwise.map _ (fun x y h z => h ?_) List.nodup_range
  omega
theorem Sys.off {st st' : Sto} {E : SE} {s d F : Nat} {step : Int} {pg : List (Int × Nat)} (S : Sys st E s step d pg) (b : But F st st') (h : F ≠ s ∧ F ≠ E.sp ∧ F ≠ E.ob ∧ F ≠ E.sk ∧ F ≠ E.rw_ ∧ F ≠ d) (hp : ∀ p ∈ pg, p.2 ≠ F) : Sys st' E s step d pg := by
  have old : ∀ n o, n ≠ F → st.get n = some o → st'.get n = some o := fun n o h k => (b.eq n (Sto.lt_nx k) h).trans k
  obtain ⟨h1, h2, h3, h4, h5, h6⟩ := h
  refine ⟨old _ _ (Ne.symm h1) S.a, old _ _ (Ne.symm h2) S.b, old _ _ (Ne.symm h3) S.c, old _ _ (Ne.symm h4) S.sk, old _ _ (Ne.symm h5) S.e, old _ _ (Ne.symm h6) S.f, S.n1, S.n2, S.n3, S.nd, fun p hp' => ?_⟩
  obtain ⟨r, sh, ix, stp, hm⟩ := S.mp p hp'
  exact ⟨r, sh, ix, stp, old _ _ (hp p hp') hm⟩
theorem Sys.up {st : Sto} {E : SE} {s d : Nat} {step : Int} {pg fr : List (Int × Nat)} (S : Sys st E s step d pg) (hm : ∀ p ∈ fr, Mp st p.2) (nd : ((pg ++ fr).map (·.1)).Nodup) : Sys (st.set d (.dct (kv (pg ++ fr)) false)) E s step d (pg ++ fr) := by
  have old : ∀ m o, m ≠ d → st.get m = some o → (st.set d (.dct (kv (pg ++ fr)) false)).get m = some o := fun m o h k => by rw [Sto.get_set, if_neg h]; exact k
  refine ⟨old _ _ (ne_get S.a S.f (fun z => nomatch z)) S.a, old _ _ (Ne.symm S.n2) S.b, old _ _ (Ne.symm S.n3) S.c, old _ _ (ne_get S.sk S.f (fun z => nomatch z)) S.sk, old _ _ (ne_get S.e S.f (fun z => nomatch z)) S.e, get_set_same S.f, S.n1, S.n2, S.n3, nd, fun p hp => ?_⟩
  obtain ⟨r, sh, ix, stp, h⟩ : Mp st p.2 := by
    rcases List.mem_append.mp hp with hp | hp
    · exact S.mp p hp
    · exact hm p hp
  exact ⟨r, sh, ix, stp, old _ _ (ne_get h S.f (fun z => nomatch z)) h⟩
end LW
set_option linter.all false
set_option maxRecDepth 100000
set_option maxHeartbeats 8000000
namespace LW
open MP PySem L2
theorem big_small {i : Int} (h : 0 ≤ i) (h2 : i ≤ 1000) : big62 i = true := by unfold big62; simp; omega
theorem mwR1_at {σ : Sl} {st : Sto} {g : MEs} {c : Int} (hg : g σ st = .ok [.int c] st) (h : 0 ≤ c) (h2 : c ≤ 1000) : mwR1 g σ st = .ok (rngP 0 c.toNat, []) st := by
  have b := big_small h h2
  simp [mwR1, hg, Res.bind, b]
def bMap3 : MS := (sSeq (sFor (mwR1 (mCons (mVar 2) mNil)) (gN 10) fB)
    (sSeq (sExpr (mCall p_check_charge gp_check_charge_d2 (mCons (mVar 0) (mCons (mDstar1 (mFld 9 "spaces" (mVar 0)) (mVar 1) (mDstar2 (mIx (mFld 9 "spaces" (mVar 0)) (mVar 1)) (mVar 9))) mNil))))
    (sSeq (sIf (mTru (mVar 8))
    (sSeq (sFldAdd 9 "last_object" (mVar 0) (mC (.int 1)))
    (sSetIx (mFld 9 "objects" (mVar 0)) (mFld 9 "last_object" (mVar 0)) mDict0))
    sSkip)
    (sSeq (sLock (mVar 9) (sFor (mwE (mVar 9)) (gN 11) (rB 11)))
    (sSeq (sExpr (mBM tpD gUpdate (mIx (mFld 9 "spaces" (mVar 0)) (mVar 1)) (mCons (mVar 9) mNil)))
    (sSeq (sExpr (mMeth 9 p_System_done gp_System_done (mVar 0) mNil))
    (sRet (mVar 7))))))))
def bMap2 : MS := (sSeq (sSet 8 (mAnd (mVar 4) (mOp oIsN (mVar 5) (mC .non))))
    (sSeq (sIf (mTru (mVar 8))
    (sSet 5 (mTup (mCons (mC (.str "object")) (mCons (mOp oAdd (mFld 9 "last_object" (mVar 0)) (mC (.int 1))) mNil))))
    sSkip)
    (sSeq (sSet 9 mDict0) bMap3)))
def bMap1 : MS := (sSeq (sExpr (mCall p_check_process gp_check_process (mCons (mVar 0) (mCons (mVar 1) mNil))))
    (sSeq (sIf (mNotT (mTru (mCall p_is_between gp_is_between (mCons (mVar 2) (mCons (mC (.int 1)) (mCons (mC (.int 512)) mNil))))))
    (sRaise1 3 "part" (mC (.str "count")))
    sSkip)
    (sSeq (sExpr (mCall p_check_rights gp_check_rights (mCons (mVar 3) mNil)))
    (sSeq (sIf (mNotT (mTru (mB gIsi (mCons (mVar 4) (mCons (mC (.ty "bool")) mNil)))))
    (sRaise1 3 "part" (mC (.str "shared")))
    sSkip)
    (sSeq (sExpr (mCall p_check_source gp_check_source (mCons (mVar 0) (mCons (mVar 5) (mCons (mVar 4) mNil)))))
    (sSeq (sIf (mOrT (mNotT (mTru (mCall p_is_between gp_is_between (mCons (mVar 6) (mCons (mC (.int 0)) (mCons (mOp oSub (mC (.int 512)) (mVar 2)) mNil)))))) (mAndT (mTru (mOp oIsN (mVar 5) (mC .non))) (mTru (mOp oNe (mVar 6) (mC (.int 0))))))
    (sRaise1 3 "part" (mC (.str "index")))
    sSkip)
    (sSeq (sSet 7 (mCall p_place_for gp_place_for (mCons (mIx (mFld 9 "spaces" (mVar 0)) (mVar 1)) (mCons (mVar 2) (mCons (mVar 7) mNil)))))
    bMap2)))))))
theorem bmap_eq : b_map_pages = bMap1 := rfl
theorem charge_at {st : Sto} {E : SE} {s d : Nat} {step : Int} {pg : List (Int × Nat)} (S : Sys st E s step d pg) (x : PV) : p_check_charge [.ref s, x, .non] st = .ok .non st := by
  unfold p_check_charge runB b_check_charge
  simp [slots, sSeq, sIf, mNotT, mTru, mFld, mVar, Res.bind, insOf, S.a, sys_strict, truP, Res.toS, sRetN, ResS.seq, outV]
theorem map3_at {st0 st : Sto} {E : SE} {s d F : Nat} {step c b : Int} {pg : List (Int × Nat)} (S : Sys st0 E s step d pg) (k0 : Keep st0 st) (hF : st0.nx ≤ F) (gF : st.get F = some (.dct [] false)) (hl : pg.length < 70000) (h3 : 1 ≤ c) (h4 : c ≤ 512) :
    ∃ st' pg', bMap3 (sm s c b F none none) st = .rt (.int b) st' ∧ Sys st' E s (step + 1) d pg' ∧ (∀ j, has pg' j = (has pg j || (decide (b ≤ j) && decide (j < b + c)))) ∧ pg'.length ≤ pg.length + 512 ∧ st0.nx ≤ st'.nx ∧ ∀ m, m < st0.nx → m ≠ s → m ≠ d → st'.get m = st0.get m := by
  obtain ⟨n, rfl⟩ : ∃ n : Nat, c = (n : Int) := ⟨c.toNat, by omega⟩
  have hn : n ≤ 512 := by omega
  obtain ⟨s1, v, fr, e1, g1, hk, hm, k1⟩ := fresh_loop (c := (n : Int)) (b := b) S k0 hF gF n hn
  have fl : fr.length = n := by
    have := congrArg List.length hk
    rw [List.length_map] at this
    rw [this]
    simp [rangeL]
  have S1 := S.keep k1
  obtain ⟨dv, s2, e2, k2⟩ := dstar_at (c := (n : Int)) (b := b) (k := v) (x := none) S1 g1 (by omega)
  have S2 := S1.keep k2
  have g2 := k2.get g1
  have k12 := k1.trans k2
  -- locked
  have kl : Keep st0 (s2.set F (.dct (kv fr) true)) := keep_but k12 But.set hF
  have Sl := S.keep kl
  have gl : (s2.set F (.dct (kv fr) true)).get F = some (.dct (kv fr) true) := get_set_same g2
  obtain ⟨s3, x', e3, S3, b3⟩ := rm_loop (v := 11) (f := fun x => sm s (n : Int) b F v x) (s := s) (fun _ _ => rfl) (fun _ => rfl) (fun _ => rfl) (fun _ => rfl) (rangeL b n) (s2.set F (.dct (kv fr) true)) pg none Sl
  have la := Sto.lt_nx S.a
  have lb := Sto.lt_nx S.b
  have lc := Sto.lt_nx S.c
  have ls := Sto.lt_nx S.sk
  have le := Sto.lt_nx S.e
  have lf := Sto.lt_nx S.f
  have Fd : F ≠ d := by omega
  have g3 : s3.get F = some (.dct (kv fr) true) := (b3.eq F (Sto.lt_nx gl) Fd).trans gl
  have mlt : ∀ p ∈ pg, p.2 < st0.nx := fun p hp => by
    obtain ⟨r, sh, ix, stp, h⟩ := S.mp p hp
    exact Sto.lt_nx h
  have S4 : Sys (s3.set F (.dct (kv fr) false)) E s step d (rmAll pg (rangeL b n)) := S3.off But.set ⟨by omega, by omega, by omega, by omega, by omega, Fd⟩ fun p hp => by
    have := mlt p ((rmAll_sub _ _).subset hp)
    omega
  have g4 : (s3.set F (.dct (kv fr) false)).get F = some (.dct (kv fr) false) := get_set_same g3
  have hm4 : ∀ p ∈ fr, Mp (s3.set F (.dct (kv fr) false)) p.2 := fun p hp => by
    obtain ⟨r, sh, ix, stp, h⟩ := (hm p hp).keep k2
    have nF : p.2 ≠ F := ne_get h g2 (fun z => nomatch z)
    have nd : p.2 ≠ d := ne_get h S2.f (fun z => nomatch z)
    have h' : (s2.set F (.dct (kv fr) true)).get p.2 = some (.ins 6 (mpF r sh ix stp)) := by rw [Sto.get_set, if_neg nF]; exact h
    exact ⟨r, sh, ix, stp, by rw [Sto.get_set, if_neg nF]; exact (b3.eq _ (Sto.lt_nx h') nd).trans h'⟩
  have disj : ∀ p ∈ fr, ∀ q ∈ rmAll pg (rangeL b n), q.1 ≠ p.1 := fun p hp q hq z => by
    have h1 : has (rmAll pg (rangeL b n)) q.1 = true := List.any_eq_true.mpr ⟨q, hq, by simp⟩
    rw [has_rmAll, z, ← hk] at h1
    have : (fr.map (·.1)).contains p.1 = true := List.contains_iff_mem.mpr (List.mem_map.mpr ⟨p, hp, rfl⟩)
    rw [this] at h1
    simp at h1
  have ndf : (fr.map (·.1)).Nodup := by rw [hk]; exact rangeL_nodup b n
  have ndA : ((rmAll pg (rangeL b n) ++ fr).map (·.1)).Nodup := by
    rw [List.map_append]
    refine List.nodup_append.mpr ⟨S4.nd, ndf, fun x hx y hy => ?_⟩
    obtain ⟨q, hq, rfl⟩ := List.mem_map.mp hx
    obtain ⟨p, hp, rfl⟩ := List.mem_map.mp hy
    exact disj p hp q hq
  have S5 := S4.up hm4 ndA
  have len := (rmAll_sub (rangeL b n) pg).length_le
  obtain ⟨s6, e6, S6, b6⟩ := done_at S5 (by rw [List.length_append]; omega)
  refine ⟨s6, rmAll pg (rangeL b n) ++ fr, ?_, S6, fun j => ?_, by rw [List.length_append]; omega, ?_, fun m q1 q2 q3 => ?_⟩
  · unfold bMap3
    have ew : mwR1 (mCons (mVar 2) mNil) (sm s (n : Int) b F none none) st = .ok (rngP 0 n, []) st := mwR1_at (c := (n : Int)) rfl (by omega) (by omega)
    have es : sFor (mwR1 (mCons (mVar 2) mNil)) (gN 10) fB (sm s (n : Int) b F none none) st = .nx (sm s (n : Int) b F v none) s1 := by
      unfold sFor
      rw [ew]
      simp only [Res.toS]
      exact e1
    rw [sSeq_nx es]
    rw [sSeq_nx (σ1 := sm s (n : Int) b F v none) (st1 := s2) (by
      have v0 : mVar 0 (sm s (n : Int) b F v none) s1 = .ok (.ref s) s1 := rfl
      simp only [sExpr, mCall, gp_check_charge_d2, mCons, mNil, v0, Res.bind, e2]
      simp [charge_at S2, Res.toS])]
    rw [sSeq_nx (σ1 := sm s (n : Int) b F v none) (st1 := s2) (by
      rw [sIf_ff (st1 := s2) (by rfl)]
      rfl)]
    rw [sSeq_nx (σ1 := sm s (n : Int) b F v x') (st1 := s3.set F (.dct (kv fr) false)) (by
      have v9 : mVar 9 (sm s (n : Int) b F v none) s2 = .ok (.ref F) s2 := rfl
      have v9' : mVar 9 (sm s (n : Int) b F v none) (s2.set F (.dct (kv fr) true)) = .ok (.ref F) (s2.set F (.dct (kv fr) true)) := rfl
      have keys : (kv fr).map (·.1) = (rangeL b n).map PV.int := by
        rw [← hk]
        unfold kv
        rw [List.map_map, List.map_map]
        rfl
      unfold sLock
      rw [v9]
      simp only [g2]
      unfold sFor mwE
      rw [v9']
      simp only [Res.bind, walkV, gl, Res.toS, keys, e3]
      rfl)]
    have szk : sz ((kv (rmAll pg (rangeL b n))).length + (kv fr).length) = true := by unfold sz kv; rw [List.length_map, List.length_map]; simp; omega
    rw [sSeq_nx (σ1 := sm s (n : Int) b F v x') (st1 := (s3.set F (.dct (kv fr) false)).set d (.dct (kv (rmAll pg (rangeL b n) ++ fr)) false)) (by
      have ix := ix_space (i := 1) (σ := sm s (n : Int) b F v x') S4.a S4.b rfl rfl
      have t : tpD (.ref d) (s3.set F (.dct (kv fr) false)) = true := by simp only [tpD, S4.f]
      have v9 : mVar 9 (sm s (n : Int) b F v x') (s3.set F (.dct (kv fr) false)) = .ok (.ref F) (s3.set F (.dct (kv fr) false)) := rfl
      have kd := keysD_kv g4
      have dc : dctOf (.ref d) (s3.set F (.dct (kv fr) false)) = some (d, kv (rmAll pg (rangeL b n)), false) := by simp only [dctOf, S4.f]
      have gu : gUpdate [.ref d, .ref F] (s3.set F (.dct (kv fr) false)) = some (.non, (s3.set F (.dct (kv fr) false)).set d (.dct (kv (rmAll pg (rangeL b n) ++ fr)) false)) := by
        unfold gUpdate
        simp only [dc, kd]
        rw [if_pos ⟨fun z => Fd (PV.ref.inj z).symm, kv_keys _, szk⟩, merge_disj fr _ disj ndf]
      simp only [sExpr, mBM, ix, Res.bind, t, if_true, mCons, mNil, v9, gu, Res.toS])]
    rw [sSeq_nx (σ1 := sm s (n : Int) b F v x') (st1 := s6) (by simp [sExpr, mMeth, mVar, mNil, gp_System_done, Res.bind, insOf, S5.a, e6, Res.toS])]
    rfl
  · rw [has_app, has_rmAll, has_keys fr, hk, mem_rangeL]
    cases has pg j <;> cases decide (b ≤ j) <;> cases decide (j < b + (n : Int)) <;> rfl
  · have q1 := kl.nx
    have q2 := b3.nx
    have q3 := b6.nx
    rw [Sto.nx_set, Sto.nx_set] at q3
    omega
  · have q4 := kl.nx
    have q5 := b3.nx
    rw [b6.eq m (by rw [Sto.nx_set, Sto.nx_set]; omega) q2, Sto.get_set, if_neg q3, Sto.get_set, if_neg (by omega), b3.eq m (by omega) q3]
    exact kl.eq m q1
end LW
set_option linter.all false
set_option maxRecDepth 100000
set_option maxHeartbeats 8000000
namespace LW
open MP PySem L2
theorem rights_at (st : Sto) : p_check_rights [.str "rw"] st = .ok .non st := by
  have e : anyEq (fun z => eqP st 60 z (.str "rw")) [.str "none", .str "r", .str "rw"] = some true := by
    simp (decide := true) [anyEq, eqP, oneRef, eqN, seqOf, lstOf, eqS, vOf, eqV]
  have g : gIsi [.str "rw", .ty "str"] st = some (.bl true, st) := rfl
  unfold p_check_rights runB b_check_rights
  simp [slots, sIf, mOrT, mNotT, mTru, mB, mCons, mNil, mVar, mC, Res.bind, g, truP, mOp, oIn, inP, e, Res.toS, sSkip, outV]
theorem source_at (st : Sto) (s : Nat) : p_check_source [.ref s, .non, .bl false] st = .ok .non st := rfl
theorem place_int {st : Sto} {d : Nat} {c b : Int} (h1 : 0 ≤ b) (h2 : b ≤ 512 - c) : p_place_for [.ref d, .int c, .int b] st = .ok (.int b) st := by
  have e1 : p_is_between [.int b, .int 0, .int (512 - c)] st = .ok (.bl true) st := by
    rw [btw_at (x := .int b) trivial]
    simp [inB, h1, h2]
  unfold p_place_for runB b_place_for
  simp [slots, sSeq, sIf, mNotT, mTru, mCall, gp_is_between, mCons, mNil, mVar, mC, mOp, oIsN, oSub, opII, Res.bind, e1, truP, Res.toS, ResS.seq, sSkip, sRet, outV]
theorem place_gap {st : Sto} {d : Nat} {c : Int} {h : Int → Bool} (D : Dic st d h) {x : Int} (hg : gapGo h c pages 0 = some x) (h1 : 0 ≤ x) (h2 : x ≤ 512 - c) : p_place_for [.ref d, .int c, .non] st = .ok (.int x) st := by
  have g := gap_in_at D c
  rw [hg] at g
  have e1 : p_is_between [.int x, .int 0, .int (512 - c)] st = .ok (.bl true) st := by
    rw [btw_at (x := .int x) trivial]
    simp [inB, h1, h2]
  unfold p_place_for runB b_place_for
  simp [slots, sSeq, sIf, sSet, mNotT, mTru, mCall, gp_is_between, gp_gap_in, mCons, mNil, mVar, mC, mOp, oIsN, oSub, opII, Res.bind, g, optI, e1, truP, Res.toS, ResS.seq, sSkip, sRet, outV]
theorem place_none {st : Sto} {d : Nat} {c : Int} {h : Int → Bool} (D : Dic st d h) (hg : gapGo h c pages 0 = none) : p_place_for [.ref d, .int c, .non] st = .err ⟨3, [("part", .str "at")]⟩ st := by
  have g := gap_in_at D c
  rw [hg] at g
  have e1 : p_is_between [.non, .int 0, .int (512 - c)] st = .ok (.bl false) st := by
    rw [btw_at (x := .non) trivial]
    rfl
  unfold p_place_for runB b_place_for
  simp [slots, sSeq, sIf, sSet, mNotT, mTru, mCall, gp_is_between, gp_gap_in, mCons, mNil, mVar, mC, mOp, oIsN, oSub, opII, Res.bind, g, optI, e1, truP, Res.toS, ResS.seq, sRaise1, outV]
theorem gap_bounds {hb : Int → Bool} {c : Int} (hc : 1 ≤ c) : ∀ (is : List Int) (p0 fr x : Int), (∀ (k : Nat) (y : Int), is[k]? = some y → y = p0 + (k : Int)) → 0 ≤ fr → fr ≤ p0 → p0 + (is.length : Int) ≤ 512 → gapGo hb c is fr = some x → 0 ≤ x ∧ x ≤ 512 - c
  | [], _, _, _, _, _, _, _, h => nomatch h
  | p :: ps, p0, fr, x, hi, f0, f1, hl, h => by
    have hp : p = p0 := by
      have := hi 0 p rfl
      simpa using this
    subst hp
    rw [List.length_cons] at hl
    have n0 : 0 ≤ nxt hb fr p := by unfold nxt; split <;> omega
    have n1 : nxt hb fr p ≤ p + 1 := by unfold nxt; split <;> omega
    unfold gapGo at h
    split at h
    · next e =>
      have h := Option.some.inj h
      rw [e] at n1
      omega
    · exact gap_bounds hc ps (p + 1) _ x (fun k y hy => by
        have := hi (k + 1) y (by simpa using hy)
        omega) n0 n1 (by omega) h
theorem pages_at : ∀ (k : Nat) (y : Int), pages[k]? = some y → y = 0 + (k : Int) := fun k y h => by
  unfold pages at h
  rw [List.getElem?_map] at h
  obtain ⟨i, h1, h2⟩ := Option.map_eq_some_iff.mp h
  rw [List.getElem?_range (by
    have := (List.getElem?_eq_some_iff.mp h1).1
    simpa using this)] at h1
  cases h1
  exact h2.symm
theorem pages_len : pages.length = 512 := by simp [pages]
theorem map_pre {st : Sto} {E : SE} {s d : Nat} {step c : Int} {pg : List (Int × Nat)} {at_ : PV} (S : Sys st E s step d pg) (h1 : 1 ≤ c) (h2 : c ≤ 512) :
    p_map_pages [.ref s, .int 1, .int c, .str "rw", .bl false, .non, .int 0, at_] st = outV (sSeq (sSet 7 (mCall p_place_for gp_place_for (mCons (mIx (mFld 9 "spaces" (mVar 0)) (mVar 1)) (mCons (mVar 2) (mCons (mVar 7) mNil))))) bMap2 [some (.ref s), some (.int 1), some (.int c), some (.str "rw"), some (.bl false), some .non, some (.int 0), some at_, none, none, none, none] st) := by
  have b1 : p_is_between [.int c, .int 1, .int 512] st = .ok (.bl true) st := by
    rw [btw_at (x := .int c) trivial]
    simp [inB, h1, h2]
  have b2 : p_is_between [.int 0, .int 0, .int (512 - c)] st = .ok (.bl true) st := by
    rw [btw_at (x := .int 0) trivial]
    have : c ≤ 512 := h2
    simp [inB]
    omega
  have g : gIsi [.bl false, .ty "bool"] st = some (.bl true, st) := rfl
  show outV (b_map_pages [some (.ref s), some (.int 1), some (.int c), some (.str "rw"), some (.bl false), some .non, some (.int 0), some at_, none, none, none, none] st) = _
  rw [bmap_eq]
  unfold bMap1
  rw [sSeq_nx (σ1 := [some (.ref s), some (.int 1), some (.int c), some (.str "rw"), some (.bl false), some .non, some (.int 0), some at_, none, none, none, none]) (st1 := st) (by simp [sExpr, mCall, gp_check_process, mCons, mNil, mVar, Res.bind, check_ok S, Res.toS])]
  rw [sSeq_nx (σ1 := [some (.ref s), some (.int 1), some (.int c), some (.str "rw"), some (.bl false), some .non, some (.int 0), some at_, none, none, none, none]) (st1 := st) (by simp [sIf, mNotT, mTru, mCall, gp_is_between, mCons, mNil, mVar, mC, Res.bind, b1, truP, Res.toS, sSkip])]
  rw [sSeq_nx (σ1 := [some (.ref s), some (.int 1), some (.int c), some (.str "rw"), some (.bl false), some .non, some (.int 0), some at_, none, none, none, none]) (st1 := st) (by simp [sExpr, mCall, gp_check_rights, mCons, mNil, mVar, Res.bind, rights_at, Res.toS])]
  rw [sSeq_nx (σ1 := [some (.ref s), some (.int 1), some (.int c), some (.str "rw"), some (.bl false), some .non, some (.int 0), some at_, none, none, none, none]) (st1 := st) (by simp [sIf, mNotT, mTru, mB, mCons, mNil, mVar, mC, Res.bind, g, truP, Res.toS, sSkip])]
  rw [sSeq_nx (σ1 := [some (.ref s), some (.int 1), some (.int c), some (.str "rw"), some (.bl false), some .non, some (.int 0), some at_, none, none, none, none]) (st1 := st) (by simp [sExpr, mCall, gp_check_source, mCons, mNil, mVar, Res.bind, source_at, Res.toS])]
  rw [sSeq_nx (σ1 := [some (.ref s), some (.int 1), some (.int c), some (.str "rw"), some (.bl false), some .non, some (.int 0), some at_, none, none, none, none]) (st1 := st) (by simp [sIf, mOrT, mAndT, mNotT, mTru, mCall, gp_is_between, mCons, mNil, mVar, mC, mOp, oSub, opII, Res.bind, b2, oIsN, nei, truP, Res.toS, sSkip])]
theorem map_ok {st : Sto} {E : SE} {s d : Nat} {step c b : Int} {pg : List (Int × Nat)} {at_ : PV} (S : Sys st E s step d pg) (hl : pg.length < 70000) (h1 : 1 ≤ c) (h2 : c ≤ 512) (hp : p_place_for [.ref d, .int c, at_] st = .ok (.int b) st) :
    ∃ st' pg', p_map_pages [.ref s, .int 1, .int c, .str "rw", .bl false, .non, .int 0, at_] st = .ok (.int b) st' ∧ Sys st' E s (step + 1) d pg' ∧ (∀ j, has pg' j = (has pg j || (decide (b ≤ j) && decide (j < b + c)))) ∧ pg'.length ≤ pg.length + 512 ∧ st.nx ≤ st'.nx ∧ ∀ m, m < st.nx → m ≠ s → m ≠ d → st'.get m = st.get m := by
  have k1 : Keep st (st.add (.dct [] false)) := Keep.add
  obtain ⟨s2, pg', e2, S2, hh, hl2, n2, o2⟩ := map3_at (b := b) S k1 (Nat.le_refl _) get_add_new hl h1 h2
  refine ⟨s2, pg', ?_, S2, hh, hl2, n2, o2⟩
  have ix := ix_space (i := 1) (σ := [some (.ref s), some (.int 1), some (.int c), some (.str "rw"), some (.bl false), some .non, some (.int 0), some at_, none, none, none, none]) S.a S.b rfl rfl
  have v2 : mVar 2 [some (.ref s), some (.int 1), some (.int c), some (.str "rw"), some (.bl false), some .non, some (.int 0), some at_, none, none, none, none] st = .ok (.int c) st := rfl
  have v7 : mVar 7 [some (.ref s), some (.int 1), some (.int c), some (.str "rw"), some (.bl false), some .non, some (.int 0), some at_, none, none, none, none] st = .ok at_ st := rfl
  rw [map_pre S h1 h2, sSeq_nx (σ1 := [some (.ref s), some (.int 1), some (.int c), some (.str "rw"), some (.bl false), some .non, some (.int 0), some (.int b), none, none, none, none]) (sSet_nx (st1 := st) (v := .int b) (by
    simp only [mCall, gp_place_for, mCons, mNil, ix, v2, v7, Res.bind, hp]))]
  unfold bMap2
  rw [sSeq_nx (σ1 := [some (.ref s), some (.int 1), some (.int c), some (.str "rw"), some (.bl false), some .non, some (.int 0), some (.int b), some (.bl false), none, none, none]) (sSet_nx (st1 := st) (v := .bl false) (by rfl))]
  rw [sSeq_nx (σ1 := [some (.ref s), some (.int 1), some (.int c), some (.str "rw"), some (.bl false), some .non, some (.int 0), some (.int b), some (.bl false), none, none, none]) (st1 := st) (by
    rw [sIf_ff (st1 := st) (by rfl)]
    rfl)]
  rw [sSeq_nx (σ1 := sm s c b st.nx none none) (sSet_nx (st1 := st.add (.dct [] false)) (v := .ref st.nx) (by rfl)), e2]
  rfl
theorem map_err {st : Sto} {E : SE} {s d : Nat} {step c : Int} {pg : List (Int × Nat)} {at_ : PV} {e : Exn} (S : Sys st E s step d pg) (h1 : 1 ≤ c) (h2 : c ≤ 512) (hp : p_place_for [.ref d, .int c, at_] st = .err e st) :
    p_map_pages [.ref s, .int 1, .int c, .str "rw", .bl false, .non, .int 0, at_] st = .err e st := by
  have ix := ix_space (i := 1) (σ := [some (.ref s), some (.int 1), some (.int c), some (.str "rw"), some (.bl false), some .non, some (.int 0), some at_, none, none, none, none]) S.a S.b rfl rfl
  have v2 : mVar 2 [some (.ref s), some (.int 1), some (.int c), some (.str "rw"), some (.bl false), some .non, some (.int 0), some at_, none, none, none, none] st = .ok (.int c) st := rfl
  have v7 : mVar 7 [some (.ref s), some (.int 1), some (.int c), some (.str "rw"), some (.bl false), some .non, some (.int 0), some at_, none, none, none, none] st = .ok at_ st := rfl
  rw [map_pre S h1 h2, sSeq_err (σ1 := [some (.ref s), some (.int 1), some (.int c), some (.str "rw"), some (.bl false), some .non, some (.int 0), some at_, none, none, none, none]) (st1 := st) (x := e) (by
    simp only [sSet, mCall, gp_place_for, mCons, mNil, ix, v2, v7, Res.bind, hp, Res.toS])]
  rfl
/-- a count that is none -/
def BadC (st : Sto) (x : PV) : Prop := p_is_between [x, .int 1, .int 512] st = .ok (.bl false) st
theorem gap_badc {st : Sto} {E : SE} {s d : Nat} {step : Int} {pg : List (Int × Nat)} {x : PV} (S : Sys st E s step d pg) (h : BadC st x) : p_gap [.ref s, .int 1, x] st = .err ⟨3, [("part", .str "count")]⟩ st := by
  have h : p_is_between [x, .int 1, .int 512] st = .ok (.bl false) st := h
  unfold p_gap runB b_gap
  simp [slots, sSeq, sExpr, mCall, gp_check_process, mCons, mNil, mVar, Res.bind, check_ok S, Res.toS, ResS.seq, sIf, mNotT, mTru, gp_is_between, mC, h, truP, sRaise1, outV]
theorem map_badc {st : Sto} {E : SE} {s d : Nat} {step : Int} {pg : List (Int × Nat)} {x at_ : PV} (S : Sys st E s step d pg) (h : BadC st x) : p_map_pages [.ref s, .int 1, x, .str "rw", .bl false, .non, .int 0, at_] st = .err ⟨3, [("part", .str "count")]⟩ st := by
  have h : p_is_between [x, .int 1, .int 512] st = .ok (.bl false) st := h
  show outV (b_map_pages [some (.ref s), some (.int 1), some x, some (.str "rw"), some (.bl false), some .non, some (.int 0), some at_, none, none, none, none] st) = _
  rw [bmap_eq]
  unfold bMap1
  rw [sSeq_nx (σ1 := [some (.ref s), some (.int 1), some x, some (.str "rw"), some (.bl false), some .non, some (.int 0), some at_, none, none, none, none]) (st1 := st) (by simp [sExpr, mCall, gp_check_process, mCons, mNil, mVar, Res.bind, check_ok S, Res.toS])]
  rw [sSeq_err (σ1 := [some (.ref s), some (.int 1), some x, some (.str "rw"), some (.bl false), some .non, some (.int 0), some at_, none, none, none, none]) (st1 := st) (x := ⟨3, [("part", .str "count")]⟩) (by simp [sIf, mNotT, mTru, mCall, gp_is_between, mCons, mNil, mVar, mC, Res.bind, h, truP, Res.toS, sRaise1])]
  rfl
theorem gap_badp {st : Sto} {E : SE} {s d : Nat} {step : Int} {pg : List (Int × Nat)} {x y : PV} (S : Sys st E s step d pg) (h : NoP st x) : p_gap [.ref s, x, y] st = .err ⟨2, [("process", x)]⟩ st := by
  unfold p_gap runB b_gap
  simp [slots, sSeq, sExpr, mCall, gp_check_process, mCons, mNil, mVar, Res.bind, check_bad S h, Res.toS, ResS.seq, outV]
theorem widest_badp {st : Sto} {E : SE} {s d : Nat} {step : Int} {pg : List (Int × Nat)} {x : PV} (S : Sys st E s step d pg) (h : NoP st x) : p_widest [.ref s, x] st = .err ⟨2, [("process", x)]⟩ st := by
  unfold p_widest runB b_widest
  simp [slots, sSeq, sExpr, mCall, gp_check_process, mCons, mNil, mVar, Res.bind, check_bad S h, Res.toS, ResS.seq, outV]
theorem regions_badp {st : Sto} {E : SE} {s d : Nat} {step : Int} {pg : List (Int × Nat)} {x : PV} (S : Sys st E s step d pg) (h : NoP st x) : p_regions [.ref s, x] st = .err ⟨2, [("process", x)]⟩ st := by
  unfold p_regions runB b_regions
  simp [slots, sSeq, sExpr, mCall, gp_check_process, mCons, mNil, mVar, Res.bind, check_bad S h, Res.toS, ResS.seq, outV]
end LW
set_option linter.all false
set_option maxRecDepth 100000
set_option maxHeartbeats 8000000
namespace LW
open MP PySem L2
def lkv (ks : List Int) : List (PV × PV) := ks.map fun i => (.int i, .bl true)
theorem lkv_get : ∀ (ks : List Int) (i : Int), (dgetP (lkv ks) (.int i)) = if ks.contains i = true then some (.bl true) else none
  | [], _ => rfl
  | p :: r, i => by
    have ih := lkv_get r i
    unfold dgetP lkv at ih ⊢
    rw [List.map_cons, List.find?_cons, List.contains_cons]
    by_cases q : i = p
    · simp [q]
    · have q3 : (i == p) = false := by simp [q]
      have q2 : ¬ p = i := fun z => q z.symm
      rw [q3, Bool.false_or, ← ih]
      simp [q2]
theorem lkv_fit (ks : List Int) (i : Int) : kfit (lkv ks) false (.int i) = true := by
  cases ks with
  | nil => rfl
  | cons p r => simp [lkv, kfit, kindK]
theorem lkv_dic {st : Sto} {n : Nat} {ks : List Int} (h : st.get n = some (.dct (lkv ks) false)) : Dic st n (fun i => ks.contains i) := ⟨lkv ks, h, fun i => ⟨lkv_fit ks i, by rw [lkv_get]; show _ = ks.contains i; cases ks.contains i <;> rfl⟩⟩
theorem lkv_del (ks : List Int) (i : Int) : ddelP (lkv ks) (.int i) = lkv (ks.filter fun j => decide (j ≠ i)) := by
  unfold ddelP lkv
  rw [List.filter_map]
  congr 1
  refine List.filter_congr fun p _ => ?_
  simp
theorem lkv_put (ks : List Int) (i : Int) : dputP (lkv ks) (.int i) (.bl true) = lkv (if ks.contains i = true then ks else ks ++ [i]) := by
  unfold dputP
  have e : ((lkv ks).any fun p => decide (p.1 = .int i)) = ks.contains i := by
    rw [Bool.eq_iff_iff]
    unfold lkv
    simp
  rw [e]
  by_cases q : ks.contains i = true
  · rw [if_pos q, if_pos q]
    conv => rhs; rw [← List.map_id (lkv ks)]
    refine List.map_congr_left fun x hx => ?_
    obtain ⟨j, hj, rfl⟩ := List.mem_map.mp hx
    by_cases z : j = i
    · simp [z]
    · simp [z]
  · rw [if_neg q, if_neg q]
    simp [lkv]
abbrev lg (c x1 : Option PV) (w s L : Nat) (v6 v7 v8 v9 v10 : Option PV) : Sl := [c, x1, some (.ref w), some (.ref s), some (.int 1), some (.ref L), v6, v7, v8, v9, v10]
abbrev popB : MS := (sExpr (mBM tpD gDPop2 (mVar 5) (mCons (mVar 9) (mCons (mC .non) mNil))))
abbrev setB : MS := (sSetIx (mVar 5) (mVar 9) (mC (.bl true)))
theorem popB_at {st : Sto} {L : Nat} {ks : List Int} {σ : Sl} {i : Int} (h : st.get L = some (.dct (lkv ks) false)) (h5 : σ[5]? = some (some (.ref L))) (h9 : σ[9]? = some (some (.int i))) :
    ∃ st', popB σ st = .nx σ st' ∧ st'.get L = some (.dct (lkv (ks.filter fun j => decide (j ≠ i))) false) ∧ But L st st' := by
  have dc : dctOf (.ref L) st = some (L, lkv ks, false) := by simp only [dctOf, h]
  have t : tpD (.ref L) st = true := by simp only [tpD, h]
  by_cases q : ks.contains i = true
  · have g : gDPop2 [.ref L, .int i, .non] st = some (.bl true, st.set L (.dct (lkv (ks.filter fun j => decide (j ≠ i))) false)) := by
      unfold gDPop2
      simp only [dc, lkv_get, q, if_true, lkv_del]
      rw [if_pos ⟨rfl, lkv_fit ks i⟩]
    refine ⟨_, ?_, get_set_same h, But.set⟩
    simp only [popB, sExpr, mBM, mVar, h5, h9, Res.bind, t, if_true, mCons, mNil, mC, g, Res.toS]
  · have g : gDPop2 [.ref L, .int i, .non] st = some (.non, st) := by
      unfold gDPop2
      simp only [dc, lkv_get, q, if_false]
      rw [if_pos ⟨rfl, lkv_fit ks i⟩]
      rfl
    have e : (ks.filter fun j => decide (j ≠ i)) = ks := List.filter_eq_self.mpr fun j hj => by
      simp
      intro z
      subst z
      exact q (List.contains_iff_mem.mpr hj)
    refine ⟨st, ?_, by rw [e]; exact h, But.refl⟩
    simp only [popB, sExpr, mBM, mVar, h5, h9, Res.bind, t, if_true, mCons, mNil, mC, g, Res.toS]
theorem setB_at {st : Sto} {L : Nat} {ks : List Int} {σ : Sl} {i : Int} (h : st.get L = some (.dct (lkv ks) false)) (h5 : σ[5]? = some (some (.ref L))) (h9 : σ[9]? = some (some (.int i))) (hl : ks.length < 90000) :
    ∃ st', setB σ st = .nx σ st' ∧ st'.get L = some (.dct (lkv (if ks.contains i = true then ks else ks ++ [i])) false) ∧ But L st st' := by
  refine ⟨_, ?_, get_set_same h, But.set⟩
  have szk : sz ((lkv ks).length + 1) = true := by unfold sz lkv; rw [List.length_map]; simp; omega
  simp only [setB, sSetIx, mC, mVar, h5, h9, Res.toS, setP, h, lkv_fit, szk, and_self, if_true, lkv_put]
theorem upd_loop {B : MS} {L : Nat} {f : Option PV → Sl} (op : List Int → Int → List Int) (hs : ∀ x (y : PV), (f x).set 9 (some y) = f (some y)) (hB : ∀ (st : Sto) (ks : List Int) (i : Int), st.get L = some (.dct (lkv ks) false) → ks.length < 90000 → ∃ st', B (f (some (.int i))) st = .nx (f (some (.int i))) st' ∧ st'.get L = some (.dct (lkv (op ks i)) false) ∧ But L st st')
    (hop : ∀ ks i, (op ks i).length ≤ ks.length + 1) :
    ∀ (is : List Int) (st : Sto) (ks : List Int) (x : Option PV), st.get L = some (.dct (lkv ks) false) → ks.length + is.length < 90000 → ∃ st' x', forGo [] (gN 9) B (is.map .int) (f x) st = .nx (f x') st' ∧ st'.get L = some (.dct (lkv (is.foldl op ks)) false) ∧ But L st st'
  | [], st, ks, x, h, _ => ⟨st, x, rfl, h, But.refl⟩
  | i :: is, st, ks, x, h, hl => by
    rw [List.length_cons] at hl
    obtain ⟨s1, e1, g1, b1⟩ := hB st ks i h (by omega)
    have := hop ks i
    obtain ⟨s2, x2, e2, g2, b2⟩ := upd_loop op hs hB hop is s1 (op ks i) (some (.int i)) g1 (by omega)
    refine ⟨s2, x2, ?_, g2, b1.trans b2⟩
    rw [List.map_cons, forGo]
    simp only [chk, List.all_nil, if_true, gN, hs, e1, ResS.loop]
    exact e2
def opDel (ks : List Int) (i : Int) : List Int := ks.filter fun j => decide (j ≠ i)
def opPut (ks : List Int) (i : Int) : List Int := if ks.contains i = true then ks else ks ++ [i]
theorem del_len (ks : List Int) (i : Int) : (opDel ks i).length ≤ ks.length + 1 := Nat.le_trans (List.length_filter_le _ _) (Nat.le_succ _)
theorem put_len (ks : List Int) (i : Int) : (opPut ks i).length ≤ ks.length + 1 := by unfold opPut; split <;> simp
theorem del_has (ks : List Int) (i j : Int) : (opDel ks i).contains j = (ks.contains j && !(j == i)) := by
  rw [Bool.eq_iff_iff]
  unfold opDel
  simp
theorem put_has (ks : List Int) (i j : Int) : (opPut ks i).contains j = (ks.contains j || (j == i)) := by
  rw [Bool.eq_iff_iff]
  unfold opPut
  split
  · next h =>
    simp at h ⊢
    intro z
    subst z
    exact h
  · simp
theorem fold_del : ∀ (is ks : List Int) (j : Int), (is.foldl opDel ks).contains j = (ks.contains j && !(is.contains j))
  | [], ks, j => by simp
  | i :: is, ks, j => by
    rw [List.foldl_cons, fold_del is, del_has, List.contains_cons]
    cases ks.contains j <;> cases (j == i) <;> cases is.contains j <;> rfl
theorem fold_put : ∀ (is ks : List Int) (j : Int), (is.foldl opPut ks).contains j = (ks.contains j || is.contains j)
  | [], ks, j => by simp
  | i :: is, ks, j => by
    rw [List.foldl_cons, fold_put is, put_has, List.contains_cons]
    cases ks.contains j <;> cases (j == i) <;> cases is.contains j <;> rfl
theorem fold_len {op : List Int → Int → List Int} (hop : ∀ ks i, (op ks i).length ≤ ks.length + 1) : ∀ (is ks : List Int), (is.foldl op ks).length ≤ ks.length + is.length
  | [], ks => Nat.le_refl _
  | i :: is, ks => by
    have h1 := fold_len hop is (op ks i)
    have h2 := hop ks i
    rw [List.foldl_cons, List.length_cons]
    omega
end LW
set_option linter.all false
set_option maxRecDepth 100000
set_option maxHeartbeats 8000000
namespace LW
open MP PySem L2
theorem mCall2 {mm : List PV → Sto → Res PV} {gP : List PV → List PV → List PV} {fa fb : ME} {σ : Sl} {st st1 st2 : Sto} {x y : PV} (ha : fa σ st = .ok x st1) (hb : fb σ st1 = .ok y st2) : mCall mm gP (mCons fa (mCons fb mNil)) σ st = mm (gP [x, y] []) st2 := by
  unfold mCall mCons mNil
  simp only [ha, hb, Res.bind]
theorem one_of {st s1 : Sto} {w i : Nat} {m : Int} {σ : Sl} {ms : MEs} {xs : List PV} (h0 : σ[i]? = some (some (.ref w))) (e1 : ms σ st = .ok xs s1) (W : Well s1 w m) (hm : m < 1000000000000) (l0 : 0 < xs.length) (l1 : xs.length < 1000) :
    ∃ x st', mCall p__law_one gp__law_one (mCons (mVar i) (mCons (mLst ms) mNil)) σ st = .ok x st' ∧ x ∈ xs ∧ Well st' w (m + 1) ∧ But w s1 st' := by
  have lw := W.lt
  obtain ⟨j, x, s3, ej, e3, W3, b3⟩ := one (W.keep (Keep.add (o := .lst xs))) (by omega) (get_add_new (st := s1) (o' := .lst xs)) (by omega) l0 (by omega)
  refine ⟨x, s3, ?_, List.mem_of_getElem? ej, W3, Keep.add.but.trans b3⟩
  have len : xs.length ≤ 16777216 := by omega
  simp [mCall, gp__law_one, mCons, mNil, mVar, h0, Res.bind, mLst, e1, sz, len, mkNew, e3]
theorem drw {st : Sto} {w i : Nat} {m k : Int} {σ : Sl} (h0 : σ[i]? = some (some (.ref w))) (W : Well st w m) (hm : m < 1000000000000) (h1 : 0 < k) (h2 : k < 1000000) :
    ∃ d st', mCall p__law_draw gp__law_draw (mCons (mVar i) (mCons (mC (.int k)) mNil)) σ st = .ok (.int d) st' ∧ 0 ≤ d ∧ d < k ∧ Well st' w (m + 1) ∧ But w st st' := by
  obtain ⟨d, s1, e1, d0, d1, W1, b1⟩ := draw W (by omega) h1 (by omega)
  refine ⟨d, s1, ?_, d0, d1, W1, b1⟩
  simp [mCall, gp__law_draw, mCons, mNil, mVar, mC, h0, Res.bind, e1]
theorem Well.lst {st : Sto} {w : Nat} {m : Int} (W : Well st w m) : ∃ xs, st.get w = some (.lst xs) ∧ xs ≠ [] := by
  obtain ⟨a, b, c, h, _⟩ := W
  exact ⟨_, h, by simp⟩
structure Inv5 (st0 : Sto) (E : SE) (w s d L : Nat) (step m : Int) (N : Nat) (pg : List (Int × Nat)) (ks : List Int) (st : Sto) : Prop where
  S : Sys st E s step d pg
  W : Well st w m
  D : st.get L = some (.dct (lkv ks) false)
  l1 : pg.length ≤ N
  l2 : ks.length ≤ N
  n1 : L ≠ E.sp
  n2 : L ≠ E.ob
  n3 : L ≠ d
  lw : st0.nx ≤ w
  ls : st0.nx ≤ s
  ld : st0.nx ≤ d
  lL : st0.nx ≤ L
  k : Keep st0 st
section
variable {st0 st st' : Sto} {E : SE} {w s d L N : Nat} {step m : Int} {pg : List (Int × Nat)} {ks : List Int}
theorem Inv5.keep (I : Inv5 st0 E w s d L step m N pg ks st) (k : Keep st st') : Inv5 st0 E w s d L step m N pg ks st' :=
  ⟨I.S.keep k, I.W.keep k, k.get I.D, I.l1, I.l2, I.n1, I.n2, I.n3, I.lw, I.ls, I.ld, I.lL, I.k.trans k⟩
theorem Inv5.le (I : Inv5 st0 E w s d L step m N pg ks st) {m' : Int} {N' : Nat} (h : m ≤ m') (h2 : N ≤ N') : Inv5 st0 E w s d L step m' N' pg ks st :=
  ⟨I.S, I.W.le h, I.D, Nat.le_trans I.l1 h2, Nat.le_trans I.l2 h2, I.n1, I.n2, I.n3, I.lw, I.ls, I.ld, I.lL, I.k⟩
theorem Inv5.well (I : Inv5 st0 E w s d L step m N pg ks st) (b : But w st st') {m' : Int} (W : Well st' w m') : Inv5 st0 E w s d L step m' N pg ks st' := by
  obtain ⟨xs, h, ne⟩ := I.W.lst
  have S := I.S
  refine ⟨S.off b ⟨ne_get h S.a (fun z => nomatch z), ne_get h S.b (fun z => nomatch z), ne_get h S.c (fun z => nomatch z), ne_get h S.sk (fun z => nomatch z), ne_get h S.e (fun z => by cases z; exact ne rfl), ne_get h S.f (fun z => nomatch z)⟩ fun p hp => ?_, W, (b.eq L (Sto.lt_nx I.D) (ne_get I.D h (fun z => nomatch z))).trans I.D, I.l1, I.l2, I.n1, I.n2, I.n3, I.lw, I.ls, I.ld, I.lL, keep_but I.k b I.lw⟩
  obtain ⟨r, sh, ix, stp, hm⟩ := S.mp p hp
  exact ne_get hm h (fun z => nomatch z)
theorem Inv5.dict (I : Inv5 st0 E w s d L step m N pg ks st) (b : But L st st') {ks' : List Int} (g : st'.get L = some (.dct (lkv ks') false)) {N' : Nat} (h1 : N ≤ N') (h2 : ks'.length ≤ N') : Inv5 st0 E w s d L step m N' pg ks' st' := by
  obtain ⟨xs, h, ne⟩ := I.W.lst
  obtain ⟨a_, b_, c_, hw, hr⟩ := I.W
  have S := I.S
  refine ⟨S.off b ⟨ne_get I.D S.a (fun z => nomatch z), I.n1, I.n2, ne_get I.D S.sk (fun z => nomatch z), ne_get I.D S.e (fun z => nomatch z), I.n3⟩ fun p hp => ?_, ⟨a_, b_, c_, (b.eq w (Sto.lt_nx hw) (ne_get hw I.D (fun z => nomatch z))).trans hw, hr⟩, g, Nat.le_trans I.l1 h1, h2, I.n1, I.n2, I.n3, I.lw, I.ls, I.ld, I.lL, keep_but I.k b I.lL⟩
  obtain ⟨r, sh, ix, stp, hm⟩ := S.mp p hp
  exact ne_get hm I.D (fun z => nomatch z)
theorem Inv5.sys (I : Inv5 st0 E w s d L step m N pg ks st) {step' : Int} {pg' : List (Int × Nat)} (S : Sys st' E s step' d pg') (n : st.nx ≤ st'.nx) (o : ∀ m, m < st.nx → m ≠ s → m ≠ d → st'.get m = st.get m) {N' : Nat} (h1 : N ≤ N') (h2 : pg'.length ≤ N') : Inv5 st0 E w s d L step' m N' pg' ks st' := by
  obtain ⟨a_, b_, c_, hw, hr⟩ := I.W
  have ws : w ≠ s := ne_get hw I.S.a (fun z => nomatch z)
  have wd : w ≠ d := ne_get hw I.S.f (fun z => nomatch z)
  have Ls : L ≠ s := ne_get I.D I.S.a (fun z => nomatch z)
  refine ⟨S, ⟨a_, b_, c_, (o w (Sto.lt_nx hw) ws wd).trans hw, hr⟩, (o L (Sto.lt_nx I.D) Ls I.n3).trans I.D, h2, Nat.le_trans I.l2 h1, I.n1, I.n2, I.n3, I.lw, I.ls, I.ld, I.lL, ⟨Nat.le_trans I.k.nx n, fun q hq => ?_⟩⟩
  have h1 := I.k.nx
  have h2 := I.ls
  have h3 := I.ld
  rw [o q (by omega) (by omega) (by omega)]
  exact I.k.eq q hq
end
abbrev meB : MEs := (mCons (mC (.int 0)) (mCons (mC (.int 500)) (mCons (mCall p__law_draw gp__law_draw (mCons (mVar 2) (mCons (mC (.int 512)) mNil))) (mCons (mCall p__law_draw gp__law_draw (mCons (mVar 2) (mCons (mC (.int 40)) mNil))) mNil))))
abbrev mBegin : ME := (mCall p__law_one gp__law_one (mCons (mVar 2) (mCons (mLst meB) mNil)))
abbrev mCnt (ms : MEs) : ME := (mOp oAdd (mC (.int 1)) (mCall p__law_draw gp__law_draw (mCons (mVar 2) (mCons (mCall p__law_one gp__law_one (mCons (mVar 2) (mCons (mLst ms) mNil))) mNil))))
abbrev me3 : MEs := (mCons (mC (.int 4)) (mCons (mC (.int 60)) (mCons (mC (.int 512)) mNil)))
abbrev me2 : MEs := (mCons (mC (.int 5)) (mCons (mC (.int 512)) mNil))
abbrev mMany : ME := (mB (gOr gMin2 (gL1 minL)) (mCons (mOp oSub (mC (.int 512)) (mVar 7)) (mCons (mCnt me3) mNil)))
theorem begin_at {st : Sto} {w : Nat} {m : Int} {σ : Sl} (h0 : σ[2]? = some (some (.ref w))) (W : Well st w m) (hm : m < 100000000000) :
    ∃ b st', mBegin σ st = .ok (.int b) st' ∧ 0 ≤ b ∧ b ≤ 511 ∧ Well st' w (m + 3) ∧ But w st st' := by
  obtain ⟨d1, s1, e1, x1, y1, W1, b1⟩ := drw (k := 512) h0 W (by omega) (by omega) (by omega)
  obtain ⟨d2, s2, e2, x2, y2, W2, b2⟩ := drw (k := 40) (σ := σ) h0 W1 (by omega) (by omega) (by omega)
  have e3 : meB σ st = .ok [.int 0, .int 500, .int d1, .int d2] s2 := by
    simp only [meB, mCons, mNil, mC, Res.bind] at e1 e2 ⊢
    rw [e1]
    simp only []
    rw [e2]
  obtain ⟨x, s3, e4, hx, W3, b3⟩ := one_of h0 e3 W2 (by omega) (by simp) (by simp)
  obtain ⟨b, rfl, q1, q2⟩ : ∃ b : Int, x = .int b ∧ 0 ≤ b ∧ b ≤ 511 := by
    simp only [List.mem_cons, List.not_mem_nil, or_false] at hx
    rcases hx with rfl | rfl | rfl | rfl
    · exact ⟨_, rfl, by omega, by omega⟩
    · exact ⟨_, rfl, by omega, by omega⟩
    · exact ⟨_, rfl, by omega, by omega⟩
    · exact ⟨_, rfl, by omega, by omega⟩
  exact ⟨b, s3, e4, q1, q2, W3.le (by omega), (b1.trans b2).trans b3⟩
theorem cnt_at {st : Sto} {w : Nat} {m : Int} {σ : Sl} {ms : MEs} {xs : List Int} (h0 : σ[2]? = some (some (.ref w))) (W : Well st w m) (hm : m < 100000000000) (hms : ms σ st = .ok (xs.map .int) st) (hx : ∀ x ∈ xs, 0 < x ∧ x ≤ 512) (l0 : 0 < xs.length) (l1 : xs.length < 1000) :
    ∃ c st', mCnt ms σ st = .ok (.int c) st' ∧ 1 ≤ c ∧ c ≤ 512 ∧ Well st' w (m + 2) ∧ But w st st' := by
  obtain ⟨x, s1, e1, h1, W1, b1⟩ := one_of h0 hms W (by omega) (by rw [List.length_map]; exact l0) (by rw [List.length_map]; exact l1)
  obtain ⟨z, hz, rfl⟩ := List.mem_map.mp h1
  obtain ⟨z0, z1⟩ := hx z hz
  obtain ⟨d, s2, e2, d0, d1, W2, b2⟩ := draw (many := z) W1 (by omega) z0 (by omega)
  refine ⟨1 + d, s2, ?_, by omega, by omega, W2.le (by omega), b1.trans b2⟩
  have v2 : mVar 2 σ st = .ok (.ref w) st := by simp only [mVar, h0]
  have hd : mCall p__law_draw gp__law_draw (mCons (mVar 2) (mCons (mCall p__law_one gp__law_one (mCons (mVar 2) (mCons (mLst ms) mNil))) mNil)) σ st = .ok (.int d) s2 := by
    rw [mCall2 v2 e1]
    exact e2
  unfold mCnt mOp
  simp only [mC, Res.bind]
  rw [hd]
  rfl
theorem many_at {st : Sto} {w : Nat} {m b : Int} {σ : Sl} (h0 : σ[2]? = some (some (.ref w))) (h7 : σ[7]? = some (some (.int b))) (h1 : 0 ≤ b) (h2 : b ≤ 511) (W : Well st w m) (hm : m < 100000000000) :
    ∃ c st', mMany σ st = .ok (.int c) st' ∧ 1 ≤ c ∧ c ≤ 512 - b ∧ Well st' w (m + 2) ∧ But w st st' := by
  obtain ⟨c, s1, e1, c1, c2, W1, b1⟩ := cnt_at (ms := me3) (xs := [4, 60, 512]) h0 W hm rfl (fun x hx => by
    simp only [List.mem_cons, List.not_mem_nil, or_false] at hx
    rcases hx with rfl | rfl | rfl <;> omega) (by simp) (by simp)
  have ea : mOp oSub (mC (.int 512)) (mVar 7) σ st = .ok (.int (512 - b)) st := by
    simp [mOp, mC, mVar, h7, Res.bind, oSub, opII]
  refine ⟨if c < 512 - b then c else 512 - b, s1, ?_, by split <;> omega, by split <;> omega, W1, b1⟩
  unfold mMany mB mCons
  rw [ea]
  simp only [Res.bind]
  rw [e1]
  simp only [Res.bind, mNil, gOr, gMin2]
end LW
set_option linter.all false
set_option maxRecDepth 100000
set_option maxHeartbeats 8000000
namespace LW
open MP PySem L2
theorem mwR1_at2 {σ : Sl} {st st1 : Sto} {g : MEs} {c : Int} (hg : g σ st = .ok [.int c] st1) (h : 0 ≤ c) (h2 : c ≤ 1000) : mwR1 g σ st = .ok (rngP 0 c.toNat, []) st1 := by
  have b := big_small h h2
  simp [mwR1, hg, Res.bind, b]
def sUn : MS := (sExpr (mCall p_unmap gp_unmap (mCons (mVar 3) (mCons (mVar 4) (mCons (mVar 7) (mCons (mVar 8) mNil))))))
abbrev mwBM : MW := (mwR2 (mCons (mVar 7) (mCons (mOp oAdd (mVar 7) (mVar 8)) mNil)))
def forPop : MS := (sFor mwBM (gN 9) popB)
def sMp : MS := (sExpr (mCallK p_map_pages gp_map_pages_kat (mCons (mVar 3) (mCons (mVar 4) (mCons (mVar 8) mNil))) (mCons (mVar 7) mNil)))
def forSet : MS := (sFor mwBM (gN 9) setB)
def bK : MS := (sSeq (sSet 7 mBegin)
    (sSeq (sSet 8 mMany)
    (sIf (mTru (mOp oEq (mCall p__law_draw gp__law_draw (mCons (mVar 2) (mCons (mC (.int 4)) mNil))) (mC (.int 0))))
    (sSeq sUn forPop)
    (sSeq sMp forSet))))
theorem rangeL_len (b : Int) (n : Nat) : (rangeL b n).length = n := by simp [rangeL]
section
variable {st0 st : Sto} {E : SE} {w s d L N : Nat} {step m : Int} {pg : List (Int × Nat)} {ks : List Int} {c x1 v6 v7 v8 v9 v10 : Option PV}
theorem bK_at (I : Inv5 st0 E w s d L step m N pg ks st) (eq : ∀ j, has pg j = ks.contains j) (hN : N ≤ 60000) (hm : m < 1000000) :
    ∃ v7' v8' v9' st' pg' ks' step', bK (lg c x1 w s L v6 v7 v8 v9 v10) st = .nx (lg c x1 w s L v6 v7' v8' v9' v10) st' ∧ Inv5 st0 E w s d L step' (m + 6) (N + 512) pg' ks' st' ∧ ∀ j, has pg' j = ks'.contains j := by
  obtain ⟨b, s1, e1, b0, b1, W1, u1⟩ := begin_at (σ := lg c x1 w s L v6 v7 v8 v9 v10) rfl I.W (by omega)
  have I1 := I.well u1 W1
  obtain ⟨n, s2, e2, n0, n1, W2, u2⟩ := many_at (σ := lg c x1 w s L v6 (some (.int b)) v8 v9 v10) (b := b) rfl rfl b0 b1 I1.W (by omega)
  have I2 := I1.well u2 W2
  obtain ⟨t, s3, e3, t0, t1, W3, u3⟩ := drw (k := 4) (i := 2) (σ := lg c x1 w s L v6 (some (.int b)) (some (.int n)) v9 v10) rfl I2.W (by omega) (by omega) (by omega)
  have I3 := I2.well u3 W3
  have tst : (mTru (mOp oEq (mCall p__law_draw gp__law_draw (mCons (mVar 2) (mCons (mC (.int 4)) mNil))) (mC (.int 0)))) (lg c x1 w s L v6 (some (.int b)) (some (.int n)) v9 v10) s2 = .ok (t == 0) s3 := by
    unfold mTru mOp
    rw [e3]
    simp only [Res.bind, mC, eqi, truP]
  have ew : ∀ s9, mwBM (lg c x1 w s L v6 (some (.int b)) (some (.int n)) v9 v10) s9 = .ok ((rangeL b n.toNat).map .int, []) s9 := fun s9 => mwR2_at rfl b0 (by omega) (by omega) (by omega)
  have hr : (rangeL b n.toNat).length ≤ 512 := by rw [rangeL_len]; omega
  have l1 := I3.l1
  have l2 := I3.l2
  have pre : ∀ {r : ResS}, (sIf (mTru (mOp oEq (mCall p__law_draw gp__law_draw (mCons (mVar 2) (mCons (mC (.int 4)) mNil))) (mC (.int 0)))) (sSeq sUn forPop) (sSeq sMp forSet)) (lg c x1 w s L v6 (some (.int b)) (some (.int n)) v9 v10) s2 = r → bK (lg c x1 w s L v6 v7 v8 v9 v10) st = r := fun h => by
    unfold bK
    rw [sSeq_nx (σ1 := lg c x1 w s L v6 (some (.int b)) v8 v9 v10) (sSet_nx e1), sSeq_nx (σ1 := lg c x1 w s L v6 (some (.int b)) (some (.int n)) v9 v10) (sSet_nx e2)]
    exact h
  cases ht : (t == 0) with
  | true =>
    rw [ht] at tst
    obtain ⟨s4, e4, S4, n4, o4⟩ := unmap_at I3.S (by omega) b0 b1 n0 n1
    have I4 := I3.sys S4 n4 o4 (Nat.le_refl N) (Nat.le_trans (rmAll_sub _ _).length_le l1)
    obtain ⟨s5, x5, e5, g5, b5⟩ := upd_loop (B := popB) (L := L) (f := fun v => lg c x1 w s L v6 (some (.int b)) (some (.int n)) v v10) opDel (fun _ _ => rfl) (fun st ks i h _ => popB_at h rfl rfl) del_len (rangeL b n.toNat) s4 ks v9 I4.D (by omega)
    have hl := fold_len del_len (rangeL b n.toNat) ks
    have I5 := I4.dict b5 g5 (N' := N + 512) (by omega) (by omega)
    refine ⟨some (.int b), some (.int n), x5, s5, _, _, _, pre ?_, I5.le (by omega) (Nat.le_refl _), fun j => by rw [has_rmAll, fold_del, eq]⟩
    rw [sIf_tt tst]
    rw [sSeq_nx (σ1 := lg c x1 w s L v6 (some (.int b)) (some (.int n)) v9 v10) (st1 := s4) (by simp [sUn, sExpr, mCall, gp_unmap, mCons, mNil, mVar, Res.bind, e4, Res.toS])]
    unfold forPop sFor
    rw [ew]
    exact e5
  | false =>
    rw [ht] at tst
    obtain ⟨s4, pg', e4, S4, h4, l4, n4, o4⟩ := map_ok (c := n) I3.S (by omega) n0 (by omega) (place_int (b := b) b0 (by omega))
    have I4 := I3.sys S4 n4 o4 (N' := N + 512) (by omega) (by omega)
    obtain ⟨s5, x5, e5, g5, b5⟩ := upd_loop (B := setB) (L := L) (f := fun v => lg c x1 w s L v6 (some (.int b)) (some (.int n)) v v10) opPut (fun _ _ => rfl) (fun st ks i h hl => setB_at h rfl rfl hl) put_len (rangeL b n.toNat) s4 ks v9 I4.D (by omega)
    have hl := fold_len put_len (rangeL b n.toNat) ks
    have I5 := I4.dict b5 g5 (Nat.le_refl _) (by omega)
    have ni : ((n.toNat : Nat) : Int) = n := by omega
    refine ⟨some (.int b), some (.int n), x5, s5, _, _, _, pre ?_, I5.le (by omega) (Nat.le_refl _), fun j => by rw [h4, fold_put, mem_rangeL, eq, ni]⟩
    rw [sIf_ff tst]
    rw [sSeq_nx (σ1 := lg c x1 w s L v6 (some (.int b)) (some (.int n)) v9 v10) (st1 := s4) (by simp [sMp, sExpr, mCallK, gp_map_pages_kat, mCons, mNil, mVar, Res.bind, e4, Res.toS])]
    unfold forSet sFor
    rw [ew]
    exact e5
def kF : MS := (sFor (mwR1 (mCons (mCall p__law_draw gp__law_draw (mCons (mVar 2) (mCons (mC (.int 13)) mNil))) mNil)) (gN 6) bK)
theorem kF_at (I : Inv5 st0 E w s d L step m 0 pg ks st) (eq : ∀ j, has pg j = ks.contains j) (hm : m < 100000) :
    ∃ v6' v7' v8' v9' st' pg' ks' step', kF (lg c x1 w s L v6 v7 v8 v9 v10) st = .nx (lg c x1 w s L v6' v7' v8' v9' v10) st' ∧ Inv5 st0 E w s d L step' (m + 100) 20000 pg' ks' st' ∧ ∀ j, has pg' j = ks'.contains j := by
  obtain ⟨t, s1, e1, t0, t1, W1, u1⟩ := drw (k := 13) (i := 2) (σ := lg c x1 w s L v6 v7 v8 v9 v10) rfl I.W (by omega) (by omega) (by omega)
  have I1 := I.well u1 W1
  obtain ⟨n, rfl⟩ : ∃ n : Nat, t = (n : Int) := ⟨t.toNat, by omega⟩
  have hg : (mCons (mCall p__law_draw gp__law_draw (mCons (mVar 2) (mCons (mC (.int 13)) mNil))) mNil) (lg c x1 w s L v6 v7 v8 v9 v10) st = .ok [.int (n : Int)] s1 := by
    unfold mCons
    have e1' := e1
    unfold mCons at e1'
    rw [e1']
    rfl
  have ew : mwR1 (mCons (mCall p__law_draw gp__law_draw (mCons (mVar 2) (mCons (mC (.int 13)) mNil))) mNil) (lg c x1 w s L v6 v7 v8 v9 v10) st = .ok (rngP 0 n, []) s1 := mwR1_at2 (c := (n : Int)) hg (by omega) (by omega)
  have rl : (rngP 0 n).length = n := by simp [rngP]
  obtain ⟨σ', st', e, h⟩ := forGo_idx (gd := []) (g := gN 6) (b := bK) (fun k σ s9 => k ≤ 13 → ∃ v6 v7 v8 v9 pg ks step, σ = lg c x1 w s L v6 v7 v8 v9 v10 ∧ Inv5 st0 E w s d L step (m + 1 + 6 * (k : Int)) (512 * k) pg ks s9 ∧ ∀ j, has pg j = ks.contains j)
    (fun _ _ _ _ => rfl) (rngP 0 n) 0 (fun j x hx σ s9 P => by
      have hj : j < n := by rw [← rl]; exact (List.getElem?_eq_some_iff.mp hx).1
      obtain ⟨v6, v7, v8, v9, pg, ks, step, rfl, I, eq⟩ := P (by omega)
      rw [Nat.zero_add] at I
      obtain ⟨v7', v8', v9', s10, pg', ks', step', e, I', eq'⟩ := bK_at (c := c) (x1 := x1) (v6 := some x) (v7 := v7) (v8 := v8) (v9 := v9) (v10 := v10) I eq (by omega) (by omega)
      exact ⟨lg c x1 w s L (some x) v7 v8 v9 v10, _, s10, rfl, e, fun _ => ⟨some x, v7', v8', v9', pg', ks', step', rfl, I'.le (by omega) (by omega), eq'⟩⟩)
    (lg c x1 w s L v6 v7 v8 v9 v10) s1 (fun _ => ⟨v6, v7, v8, v9, pg, ks, step, rfl, I1.le (by omega) (by omega), eq⟩)
  rw [rl, Nat.zero_add] at h
  obtain ⟨v6', v7', v8', v9', pg', ks', step', rfl, I', eq'⟩ := h (by omega)
  refine ⟨v6', v7', v8', v9', st', pg', ks', step', ?_, I'.le (by omega) (by omega), eq'⟩
  unfold kF sFor
  rw [ew]
  exact e
end
end LW
set_option linter.all false
set_option maxRecDepth 100000
set_option maxHeartbeats 8000000
namespace LW
open MP PySem L2
theorem mCall3 {mm : List PV → Sto → Res PV} {gP : List PV → List PV → List PV} {fa fb fc : ME} {σ : Sl} {st st1 st2 st3 : Sto} {x y z : PV} (ha : fa σ st = .ok x st1) (hb : fb σ st1 = .ok y st2) (hc : fc σ st2 = .ok z st3) : mCall mm gP (mCons fa (mCons fb (mCons fc mNil))) σ st = mm (gP [x, y, z] []) st3 := by
  unfold mCall mCons mNil
  simp only [ha, hb, hc, Res.bind]
def Odd (st : Sto) (x : PV) : Prop := x = .tup [.int 1] ∨ Arg st x
theorem Odd.keep {st st' : Sto} {x : PV} (k : Keep st st') (h : Odd st x) : Odd st' x := h.imp id fun a => a.keep k
theorem Odd.but {st st' : Sto} {x : PV} {w : Nat} (b : But w st st') (h : Odd st x) (ne : x ≠ .ref w) : Odd st' x := h.imp id fun a => a.but b ne
theorem Odd.noP {st : Sto} {x : PV} (h : Odd st x) (hi : ∀ i : Int, x = .int i → i ≠ 1) : NoP st x := by
  rcases h with rfl | a
  · exact .inl (by rfl)
  · by_cases q : ∃ i, x = .int i
    · obtain ⟨i, rfl⟩ := q
      exact .inr ⟨i, rfl, hi i rfl⟩
    · refine .inl ?_
      rw [isint_at a]
      cases x <;> first | rfl | (exact absurd ⟨_, rfl⟩ q)
theorem Odd.badC {st : Sto} {x : PV} (h : Odd st x) (hi : ∀ i : Int, x = .int i → ¬ (1 ≤ i ∧ i ≤ 512)) : BadC st x := by
  rcases h with rfl | a
  · show p_is_between _ _ = _
    rfl
  · show p_is_between _ _ = _
    rw [btw_at a]
    cases x <;> try rfl
    case int i =>
      have := hi i rfl
      simp [inB]
      omega
theorem Odd.eq {st : Sto} {x : PV} (h : Odd st x) (s2 : Sto) : eqP s2 60 x x = some true := by
  rcases h with rfl | a
  · simp [eqP, oneRef, eqN, seqOf, allEq, eqS, vOf, eqV, lstOf]
  · cases x <;> first | exact a.elim | simp [eqP, oneRef, eqN, seqOf, allEq, eqS, vOf, eqV, lstOf]
theorem pair_eq {st s2 : Sto} {x : PV} {a : Str} (h : Odd st x) : eqN s2 (eqP s2 60) (.tup [.str a, x]) (.tup [.str a, x]) = some true := by
  simp [eqN, seqOf, allEq, eqP_str, h.eq s2]
abbrev mSaid (f : ME) : ME := mLam (subOf subT) hs__law_said N__law_said.length f
abbrev mPairP : ME := (mTup (mCons (mC (.str "process")) (mCons (mVar 3) mNil)))
abbrev mPairC : ME := (mTup (mCons (mC (.str "part")) (mCons (mC (.str "count")) mNil)))
theorem said_ok {f : ME} {σ : Sl} {st st' : Sto} {v : PV} (h : f σ st = .ok v st') : mSaid f σ st = .ok v st' := by unfold mSaid mLam; rw [h]
theorem said_proc {f : ME} {σ : Sl} {st st' : Sto} {x : PV} (h : f σ st = .err ⟨2, [("process", x)]⟩ st') : mSaid f σ st = .ok (.tup [.str "process", x]) st' := by
  unfold mSaid mLam
  rw [h]
  rfl
theorem said_part {f : ME} {σ : Sl} {st st' : Sto} {x : PV} (h : f σ st = .err ⟨3, [("part", x)]⟩ st') : mSaid f σ st = .ok (.tup [.str "part", x]) st' := by
  unfold mSaid mLam
  rw [h]
  rfl
theorem saidP_at {f : ME} {σ : Sl} {st st' : Sto} {x : PV} (ho : Odd st' x) (hf : f σ st = .err ⟨2, [("process", x)]⟩ st') (h3 : σ[3]? = some (some x)) : mTru (mOp oNe (mSaid f) mPairP) σ st = .ok false st' := by
  have e1 : mSaid f σ st = .ok (.tup [.str "process", x]) st' := said_proc hf
  have e2 := pair_eq (s2 := st') (a := "process") ho
  unfold mTru mOp
  rw [e1]
  simp [Res.bind, mPairP, mTup, mCons, mNil, mVar, mC, h3, sz, oNe, e2, truP]
theorem saidC_at {f : ME} {σ : Sl} {st st' : Sto} (hf : f σ st = .err ⟨3, [("part", .str "count")]⟩ st') : mTru (mOp oNe (mSaid f) mPairC) σ st = .ok false st' := by
  have e1 : mSaid f σ st = .ok (.tup [.str "part", .str "count"]) st' := said_part hf
  have e2 := pair_eq (st := st') (s2 := st') (a := "part") (x := .str "count") (.inr trivial)
  unfold mTru mOp
  rw [e1]
  simp [Res.bind, mPairC, mTup, mCons, mNil, mC, sz, oNe, e2, truP]
theorem pow30 (st : Sto) : oPow (.int 10) (.int 30) st = .ok (.int 1000000000000000000000000000000) st := by rfl
abbrev meP : MEs := (mCons (mC (.int 0)) (mCons (mC (.int 2)) (mCons (mNeg (mC (.int 1))) (mCons (mC .non) (mCons (mC (.str "1")) (mCons (mOp oEq (mC (.int 1)) (mC (.int 1))) (mCons (mLst mNil) (mCons mDict0 (mCons (mTup (mCons (mC (.int 1)) mNil)) (mCons (mOp oPow (mC (.int 10)) (mC (.int 30))) mNil))))))))))
abbrev meC : MEs := (mCons (mC (.int 0)) (mCons (mNeg (mC (.int 1))) (mCons (mC (.int 513)) (mCons (mC .non) (mCons (mC (.str "1")) (mCons (mOp oEq (mC (.int 1)) (mC (.int 1))) (mCons (mLst mNil) (mCons mDict0 (mCons (mTup (mCons (mC (.int 1)) mNil)) (mCons (mOp oPow (mC (.int 10)) (mC (.int 30))) mNil))))))))))
theorem oddP_at {st : Sto} {w : Nat} {m : Int} {σ : Sl} (h0 : σ[0]? = some (some (.ref w))) (W : Well st w m) (hm : m < 100000000) :
    ∃ x st', mCall p__law_one gp__law_one (mCons (mVar 0) (mCons (mLst meP) mNil)) σ st = .ok x st' ∧ Odd st' x ∧ (∀ i : Int, x = .int i → i ≠ 1) ∧ x ≠ .ref w ∧ Well st' w (m + 1) ∧ But w st st' := by
  have k : Keep st ((st.add (.lst [])).add (.dct [] false)) := Keep.add.trans Keep.add
  have g1 : ((st.add (.lst [])).add (.dct [] false)).get st.nx = some (.lst []) := get_add_old get_add_new
  have g2 : ((st.add (.lst [])).add (.dct [] false)).get (st.nx + 1) = some (.dct [] false) := by
    have := get_add_new (st := st.add (.lst [])) (o' := .dct [] false)
    rw [Sto.nx_add] at this; exact this
  have lw := W.lt
  obtain ⟨x, s3, e3, hx, W3, b3⟩ := one_of (st := st) (i := 0) (ms := meP) (xs := [.int 0, .int 2, .int (-1), .non, .str "1", .bl true, .ref st.nx, .ref (st.nx + 1), .tup [.int 1], .int 1000000000000000000000000000000]) h0 (s1 := (st.add (.lst [])).add (.dct [] false)) (by
    simp [mCons, mNil, Res.bind, mLst, mC, sz, mkNew, mNeg, mOp, pow30, eq11, mDict0, mTup, Sto.nx_add]) (W.keep k) (by omega) (by simp) (by simp)
  have hh : Odd ((st.add (.lst [])).add (.dct [] false)) x ∧ (∀ i : Int, x = .int i → i ≠ 1) ∧ x ≠ .ref w := by
    simp only [List.mem_cons, List.not_mem_nil, or_false] at hx
    rcases hx with rfl | rfl | rfl | rfl | rfl | rfl | rfl | rfl | rfl | rfl
    · exact ⟨.inr trivial, fun i q => by cases q; decide, fun q => nomatch q⟩
    · exact ⟨.inr trivial, fun i q => by cases q; decide, fun q => nomatch q⟩
    · exact ⟨.inr trivial, fun i q => by cases q; decide, fun q => nomatch q⟩
    · exact ⟨.inr trivial, (fun i q => nomatch q), fun q => nomatch q⟩
    · exact ⟨.inr trivial, (fun i q => nomatch q), fun q => nomatch q⟩
    · exact ⟨.inr trivial, (fun i q => nomatch q), fun q => nomatch q⟩
    · exact ⟨.inr (.inl g1), (fun i q => nomatch q), fun q => by cases q; omega⟩
    · exact ⟨.inr (.inr g2), (fun i q => nomatch q), fun q => by cases q; omega⟩
    · exact ⟨.inl rfl, (fun i q => nomatch q), fun q => nomatch q⟩
    · exact ⟨.inr trivial, fun i q => by cases q; decide, fun q => nomatch q⟩
  exact ⟨x, s3, e3, hh.1.but b3 hh.2.2, hh.2.1, hh.2.2, W3, k.but.trans b3⟩
theorem oddC_at {st : Sto} {w : Nat} {m : Int} {σ : Sl} (h0 : σ[0]? = some (some (.ref w))) (W : Well st w m) (hm : m < 100000000) :
    ∃ x st', mCall p__law_one gp__law_one (mCons (mVar 0) (mCons (mLst meC) mNil)) σ st = .ok x st' ∧ Odd st' x ∧ (∀ i : Int, x = .int i → ¬ (1 ≤ i ∧ i ≤ 512)) ∧ Well st' w (m + 1) ∧ But w st st' := by
  have k : Keep st ((st.add (.lst [])).add (.dct [] false)) := Keep.add.trans Keep.add
  have g1 : ((st.add (.lst [])).add (.dct [] false)).get st.nx = some (.lst []) := get_add_old get_add_new
  have g2 : ((st.add (.lst [])).add (.dct [] false)).get (st.nx + 1) = some (.dct [] false) := by
    have := get_add_new (st := st.add (.lst [])) (o' := .dct [] false)
    rw [Sto.nx_add] at this; exact this
  have lw := W.lt
  obtain ⟨x, s3, e3, hx, W3, b3⟩ := one_of (st := st) (i := 0) (ms := meC) (xs := [.int 0, .int (-1), .int 513, .non, .str "1", .bl true, .ref st.nx, .ref (st.nx + 1), .tup [.int 1], .int 1000000000000000000000000000000]) h0 (s1 := (st.add (.lst [])).add (.dct [] false)) (by
    simp [mCons, mNil, Res.bind, mLst, mC, sz, mkNew, mNeg, mOp, pow30, eq11, mDict0, mTup, Sto.nx_add]) (W.keep k) (by omega) (by simp) (by simp)
  have hh : Odd ((st.add (.lst [])).add (.dct [] false)) x ∧ (∀ i : Int, x = .int i → ¬ (1 ≤ i ∧ i ≤ 512)) ∧ x ≠ .ref w := by
    simp only [List.mem_cons, List.not_mem_nil, or_false] at hx
    rcases hx with rfl | rfl | rfl | rfl | rfl | rfl | rfl | rfl | rfl | rfl
    · exact ⟨.inr trivial, fun i q => by cases q; decide, fun q => nomatch q⟩
    · exact ⟨.inr trivial, fun i q => by cases q; decide, fun q => nomatch q⟩
    · exact ⟨.inr trivial, fun i q => by cases q; decide, fun q => nomatch q⟩
    · exact ⟨.inr trivial, (fun i q => nomatch q), fun q => nomatch q⟩
    · exact ⟨.inr trivial, (fun i q => nomatch q), fun q => nomatch q⟩
    · exact ⟨.inr trivial, (fun i q => nomatch q), fun q => nomatch q⟩
    · exact ⟨.inr (.inl g1), (fun i q => nomatch q), fun q => by cases q; omega⟩
    · exact ⟨.inr (.inr g2), (fun i q => nomatch q), fun q => by cases q; omega⟩
    · exact ⟨.inl rfl, (fun i q => nomatch q), fun q => nomatch q⟩
    · exact ⟨.inr trivial, fun i q => by cases q; decide, fun q => nomatch q⟩
  exact ⟨x, s3, e3, hh.1.but b3 hh.2.2, hh.2.1, W3, k.but.trans b3⟩
abbrev blF : MS := sRet (mC (.bl false))
def bRef : MS := (sSeq (sSet 3 (mCall p__law_one gp__law_one (mCons (mVar 0) (mCons (mLst meP) mNil))))
    (sSeq (sIf (mTru (mOp oNe (mSaid (mCall p_gap gp_gap (mCons (mVar 1) (mCons (mVar 3) (mCons (mCall p__law_one gp__law_one (mCons (mVar 0) (mCons (mLst (mCons (mC (.int 1)) (mCons (mC (.int 0)) mNil))) mNil))) mNil))))) mPairP)) blF sSkip)
    (sSeq (sIf (mTru (mOp oNe (mSaid (mCall p_widest gp_widest (mCons (mVar 1) (mCons (mVar 3) mNil)))) mPairP)) blF sSkip)
    (sSeq (sIf (mTru (mOp oNe (mSaid (mCall p_regions gp_regions (mCons (mVar 1) (mCons (mVar 3) mNil)))) mPairP)) blF sSkip)
    (sSeq (sSet 3 (mCall p__law_one gp__law_one (mCons (mVar 0) (mCons (mLst meC) mNil))))
    (sSeq (sIf (mTru (mOp oNe (mSaid (mCall p_gap gp_gap (mCons (mVar 1) (mCons (mVar 2) (mCons (mVar 3) mNil))))) mPairC)) blF sSkip)
    (sSeq (sIf (mTru (mOp oNe (mSaid (mCall p_map_pages gp_map_pages_k0 (mCons (mVar 1) (mCons (mVar 2) (mCons (mVar 3) mNil))))) mPairC)) blF sSkip)
    (sRet (mC (.bl true))))))))))
theorem bref_eq : b__law_refused = bRef := rfl
theorem refused_at {st0 st : Sto} {E : SE} {w s d L N : Nat} {step m : Int} {pg : List (Int × Nat)} {ks : List Int} (I : Inv5 st0 E w s d L step m N pg ks st) (hm : m < 10000000) :
    ∃ st', p__law_refused [.ref w, .ref s, .int 1] st = .ok (.bl true) st' ∧ Inv5 st0 E w s d L step (m + 3) N pg ks st' := by
  obtain ⟨x, s1, e1, o1, i1, n1, W1, u1⟩ := oddP_at (σ := [some (.ref w), some (.ref s), some (.int 1), none]) rfl I.W (by omega)
  have I1 := I.well u1 W1
  obtain ⟨y, s2, e2, hy, W2, u2⟩ := one_of (i := 0) (σ := [some (.ref w), some (.ref s), some (.int 1), some x]) (ms := (mCons (mC (.int 1)) (mCons (mC (.int 0)) mNil))) (xs := [.int 1, .int 0]) rfl (s1 := s1) rfl I1.W (by omega) (by simp) (by simp)
  have I2 := I1.well u2 W2
  have o2 := o1.but u2 n1
  have np := o2.noP i1
  obtain ⟨z, s3, e3, o3, i3, W3, u3⟩ := oddC_at (σ := [some (.ref w), some (.ref s), some (.int 1), some x]) rfl I2.W (by omega)
  have I3 := I2.well u3 W3
  have bc := o3.badC i3
  refine ⟨s3, ?_, I3.le (by omega) (Nat.le_refl _)⟩
  show outV (b__law_refused [some (.ref w), some (.ref s), some (.int 1), none] st) = _
  rw [bref_eq]
  unfold bRef
  rw [sSeq_nx (σ1 := [some (.ref w), some (.ref s), some (.int 1), some x]) (sSet_nx e1)]
  rw [sSeq_nx (σ1 := [some (.ref w), some (.ref s), some (.int 1), some x]) (st1 := s2) (by
    have v1 : mVar 1 [some (.ref w), some (.ref s), some (.int 1), some x] s1 = .ok (.ref s) s1 := rfl
    have v3 : mVar 3 [some (.ref w), some (.ref s), some (.int 1), some x] s1 = .ok x s1 := rfl
    rw [sIf_ff (saidP_at o2 (by
      rw [mCall3 v1 v3 e2]
      exact gap_badp I2.S np) rfl)]
    rfl)]
  rw [sSeq_nx (σ1 := [some (.ref w), some (.ref s), some (.int 1), some x]) (st1 := s2) (by
    rw [sIf_ff (saidP_at (st' := s2) o2 (by
      rw [mCall2 (x := .ref s) (y := x) (st1 := s2) (st2 := s2) rfl rfl]
      exact widest_badp I2.S np) rfl)]
    rfl)]
  rw [sSeq_nx (σ1 := [some (.ref w), some (.ref s), some (.int 1), some x]) (st1 := s2) (by
    rw [sIf_ff (saidP_at (st' := s2) o2 (by
      rw [mCall2 (x := .ref s) (y := x) (st1 := s2) (st2 := s2) rfl rfl]
      exact regions_badp I2.S np) rfl)]
    rfl)]
  rw [sSeq_nx (σ1 := [some (.ref w), some (.ref s), some (.int 1), some z]) (sSet_nx e3)]
  rw [sSeq_nx (σ1 := [some (.ref w), some (.ref s), some (.int 1), some z]) (st1 := s3) (by
    rw [sIf_ff (saidC_at (st' := s3) (by
      rw [mCall3 (x := .ref s) (y := .int 1) (z := z) (st1 := s3) (st2 := s3) (st3 := s3) rfl rfl rfl]
      exact gap_badc I3.S bc))]
    rfl)]
  rw [sSeq_nx (σ1 := [some (.ref w), some (.ref s), some (.int 1), some z]) (st1 := s3) (by
    rw [sIf_ff (saidC_at (st' := s3) (by
      rw [mCall3 (x := .ref s) (y := .int 1) (z := z) (st1 := s3) (st2 := s3) (st3 := s3) rfl rfl rfl]
      exact map_badc I3.S bc))]
    rfl)]
  rfl
end LW
set_option linter.all false
set_option maxRecDepth 100000
set_option maxHeartbeats 8000000
namespace LW
open MP PySem L2
theorem new_process0 {st : Sto} {E : SE} {s : Nat} (S : Sys0 st E s 0 0 []) : ∃ st', p_new_process [.ref s] st = .ok (.int 1) st' ∧ Sys st' E s 0 st.nx [] ∧ st.nx ≤ st'.nx ∧ ∀ m, m < st.nx → m ≠ s → m ≠ E.sp → st'.get m = st.get m := by
  have hs : s ≠ E.sp := ne_get S.a S.b (fun z => nomatch z)
  have a1 : (st.set s (.ins 9 (sysF E 0 1))).get s = some (.ins 9 (sysF E 0 1)) := get_set_same S.a
  have a2 : ((st.set s (.ins 9 (sysF E 0 1))).add (.dct [] false)).get s = some (.ins 9 (sysF E 0 1)) := get_add_old a1
  have b0 : st.get E.sp = some (.dct [] false) := S.b
  have b1 : (st.set s (.ins 9 (sysF E 0 1))).get E.sp = some (.dct [] false) := by rw [Sto.get_set, if_neg (Ne.symm hs)]; exact b0
  have b2 : ((st.set s (.ins 9 (sysF E 0 1))).add (.dct [] false)).get E.sp = some (.dct [] false) := get_add_old b1
  have nx1 : (st.set s (.ins 9 (sysF E 0 1))).nx = st.nx := Sto.nx_set _ _ _
  have hlt : s < st.nx := Sto.lt_nx S.a
  have hsp : E.sp < st.nx := Sto.lt_nx S.b
  have old : ∀ m, m < st.nx → m ≠ s → m ≠ E.sp → (((st.set s (.ins 9 (sysF E 0 1))).add (.dct [] false)).set E.sp (.dct [(.int 1, .ref st.nx)] false)).get m = st.get m := fun m h1 h2 h3 => by
    rw [Sto.get_set, if_neg h3, Sto.get_add, if_neg (by rw [nx1]; omega), Sto.get_set, if_neg h2]
  have oldS : ∀ m o, m ≠ s → m ≠ E.sp → st.get m = some o → (((st.set s (.ins 9 (sysF E 0 1))).add (.dct [] false)).set E.sp (.dct [(.int 1, .ref st.nx)] false)).get m = some o := fun m o h2 h3 h => (old m (Sto.lt_nx h) h2 h3).trans h
  have hob : E.ob < st.nx := Sto.lt_nx S.c
  refine ⟨((st.set s (.ins 9 (sysF E 0 1))).add (.dct [] false)).set E.sp (.dct [(.int 1, .ref st.nx)] false), ?_, ⟨?_, get_set_same b2, oldS _ _ (ne_get S.c S.a (fun z => nomatch z)) (Ne.symm S.ne) S.c, oldS _ _ (fun z => ?_) (ne_get S.d S.b (fun z => nomatch z)) S.d, oldS _ _ (ne_get S.e S.a (fun z => nomatch z)) (ne_get S.e S.b (fun z => nomatch z)) S.e, ?_, S.ne, by omega, by omega, .nil, fun _ h => (nomatch h)⟩, by rw [Sto.nx_set, Sto.nx_add, nx1]; omega, old⟩
  · have a3 : (((st.set s (.ins 9 (sysF E 0 1))).add (.dct [] false)).set E.sp (.dct [(.int 1, .ref st.nx)] false)).get s = some (.ins 9 (sysF E 0 1)) := by rw [Sto.get_set, if_neg hs]; exact a2
    have kf : kfit [] false (.int 1) = true := rfl
    have dp : ∀ v, dputP [] (.int 1) v = [(.int 1, v)] := fun v => rfl
    unfold p_new_process runB b_new_process
    simp [slots, sSeq, sFldAdd, mVar, mC, Res.toS, ResS.seq, insOf, S.a, sys_last, sys_len, sys_putLast, sSetIx, mDict0, mkNew, mFld, Res.bind, a1, a2, b1, b2, a3, sys_spaces, setP, kf, dp, sz, nx1, sRet, outV]
  · rw [Sto.get_set, if_neg hs]; exact a2
  · have := S.d
    rw [z, S.a] at this
    cases this
  · rw [Sto.get_set, if_neg (by omega)]
    have := get_add_new (st := st.set s (.ins 9 (sysF E 0 1))) (o' := .dct [] false)
    rw [nx1] at this
    exact this
theorem spawn0 {st : Sto} {E : SE} {s : Nat} (S : Sys0 st E s 0 0 []) : ∃ st', p_spawn [.ref s] st = .ok (.int 1) st' ∧ Sys st' E s 1 st.nx [] ∧ st.nx < st'.nx ∧ ∀ m, m < st.nx → m ≠ s → m ≠ E.sp → st'.get m = st.get m := by
  obtain ⟨s1, e1, S1, n1, o1⟩ := new_process0 S
  obtain ⟨s2, e2, S2, b2⟩ := done_at S1 (by simp)
  refine ⟨s2, ?_, S2, Sto.lt_nx S2.f, fun m h1 h2 h3 => (b2.eq m (by omega) h2).trans (o1 m h1 h2 h3)⟩
  unfold p_spawn runB b_spawn
  simp [slots, sSeq, sSet, mCall, gp_new_process, mCons, mNil, mVar, Res.bind, e1, Res.toS, ResS.seq, sExpr, mMeth, insOf, S1.a, gp_System_done, e2, sRet, outV]
theorem ne_opt (o : Option Int) (st : Sto) : eqN st (eqP st 60) (optI o) (optI o) = some true := by
  cases o <;> simp [optI, eqN, seqOf, lstOf, eqS, vOf, eqV]
theorem mCons_ok {fa : ME} {g : MEs} {σ : Sl} {st st1 st2 : Sto} {x : PV} {xs : List PV} (ha : fa σ st = .ok x st1) (hg : g σ st1 = .ok xs st2) : mCons fa g σ st = .ok (x :: xs) st2 := by
  unfold mCons
  simp only [ha, hg, Res.bind]
theorem cons6 {f1 f2 f3 f4 f5 f6 : ME} {σ : Sl} {st st2 : Sto} {x1 x2 x3 x4 x5 x6 : PV} (h1 : f1 σ st = .ok x1 st) (h2 : f2 σ st = .ok x2 st) (h3 : f3 σ st = .ok x3 st) (h4 : f4 σ st = .ok x4 st) (h5 : f5 σ st = .ok x5 st) (h6 : f6 σ st = .ok x6 st2) :
    mCons f1 (mCons f2 (mCons f3 (mCons f4 (mCons f5 (mCons f6 mNil))))) σ st = .ok [x1, x2, x3, x4, x5, x6] st2 := mCons_ok h1 (mCons_ok h2 (mCons_ok h3 (mCons_ok h4 (mCons_ok h5 (mCons_ok h6 rfl)))))
def if1 : MS := (sIf (mTru (mOp oNe (mCall p_widest gp_widest (mCons (mVar 3) (mCons (mVar 4) mNil))) (mCall p__law_widest gp__law_widest (mCons (mVar 5) mNil)))) blF sSkip)
abbrev me6 : MEs := (mCons (mC (.int 1)) (mCons (mC (.int 2)) (mCons (mC (.int 512)) (mCons (mCall p__law_widest gp__law_widest (mCons (mVar 5) mNil)) (mCons (mOp oAdd (mCall p__law_widest gp__law_widest (mCons (mVar 5) mNil)) (mC (.int 1))) (mCons (mOp oAdd (mC (.int 1)) (mCall p__law_draw gp__law_draw (mCons (mVar 2) (mCons (mC (.int 512)) mNil)))) mNil))))))
abbrev b6 : MS := (sIf (mAndT (mTstB (mChain oLe oLe (mC (.int 1)) (mVar 8) (mC (.int 512)))) (mTru (mOp oNe (mCall p_gap gp_gap (mCons (mVar 3) (mCons (mVar 4) (mCons (mVar 8) mNil)))) (mCall p__law_fits gp__law_fits (mCons (mVar 5) (mCons (mVar 8) mNil)))))) blF sSkip)
def for6 : MS := (sFor (mwE (mLst me6)) (gN 8) b6)
def ifR : MS := (sIf (mNotT (mTru (mCall p__law_refused gp__law_refused (mCons (mVar 2) (mCons (mVar 3) (mCons (mVar 4) mNil)))))) blF sSkip)
abbrev mDue : ME := (mCall p__law_fits gp__law_fits (mCons (mVar 5) (mCons (mVar 8) mNil)))
abbrev mAns : ME := (mIx (mLst (mCons (mVar 10) (mCons (mTup (mCons (mC (.str "part")) (mCons (mC (.str "at")) mNil))) mNil))) (mB gInt (mCons (mOp oIsN (mVar 10) (mC .non)) mNil)))
abbrev mMapS : ME := mSaid (mCall p_map_pages gp_map_pages_k0 (mCons (mVar 3) (mCons (mVar 4) (mCons (mVar 8) mNil))))
def ifF : MS := (sIf (mTru (mOp oNe mMapS mAns)) blF sSkip)
section
variable {st0 st : Sto} {E : SE} {w s d L N : Nat} {step m : Int} {pg : List (Int × Nat)} {ks : List Int} {c x1 v6 v7 v8 v9 v10 : Option PV}
theorem Inv5.fn (eq : ∀ j, has pg j = ks.contains j) : has pg = fun j => ks.contains j := funext eq
theorem if1_at (I : Inv5 st0 E w s d L step m N pg ks st) (eq : ∀ j, has pg j = ks.contains j) : if1 (lg c x1 w s L v6 v7 v8 v9 v10) st = .nx (lg c x1 w s L v6 v7 v8 v9 v10) st := by
  have e1 := widest_at I.S
  have e2 := lwidest_at (lkv_dic I.D)
  rw [Inv5.fn eq] at e1
  unfold if1
  rw [sIf_ff (st1 := st) (by simp [mTru, mOp, mCall, gp_widest, gp__law_widest, mCons, mNil, mVar, Res.bind, e1, e2, nei, truP])]
  rfl
theorem b6_at (I : Inv5 st0 E w s d L step m N pg ks st) (eq : ∀ j, has pg j = ks.contains j) (x : Int) : b6 (lg c x1 w s L v6 v7 (some (.int x)) v9 v10) st = .nx (lg c x1 w s L v6 v7 (some (.int x)) v9 v10) st := by
  have e2 := fits_at (lkv_dic I.D) x
  unfold b6
  rw [sIf_ff (st1 := st)]
  · rfl
  · by_cases h : 1 ≤ x
    · by_cases h2 : x ≤ 512
      · have e1 := gap_at I.S h h2
        rw [Inv5.fn eq] at e1
        simp [mAndT, mTstB, mChain, mC, mVar, Res.bind, oLe, opII, h, h2, mTru, mOp, mCall, gp_gap, gp__law_fits, mCons, mNil, e1, e2, oNe, ne_opt, truP]
      · simp [mAndT, mTstB, mChain, mC, mVar, Res.bind, oLe, opII, h, h2]
    · simp [mAndT, mTstB, mChain, mC, mVar, Res.bind, oLe, opII, h]
theorem for6_at (I : Inv5 st0 E w s d L step m N pg ks st) (eq : ∀ j, has pg j = ks.contains j) (hm : m < 10000000) :
    ∃ v8' st', for6 (lg c x1 w s L v6 v7 v8 v9 v10) st = .nx (lg c x1 w s L v6 v7 v8' v9 v10) st' ∧ Inv5 st0 E w s d L step (m + 1) N pg ks st' := by
  obtain ⟨t, s1, e1, t0, t1, W1, u1⟩ := drw (k := 512) (i := 2) (σ := lg c x1 w s L v6 v7 v8 v9 v10) rfl I.W (by omega) (by omega) (by omega)
  have I1 := I.well u1 W1
  have e2 := lwidest_at (lkv_dic I.D)
  obtain ⟨xs, hxs⟩ : ∃ xs : List Int, xs = [1, 2, 512, widGo (fun j => ks.contains j) pages 0 0, widGo (fun j => ks.contains j) pages 0 0 + 1, 1 + t] := ⟨_, rfl⟩
  have xl : xs.length = 6 := by rw [hxs]; rfl
  have e3 : me6 (lg c x1 w s L v6 v7 v8 v9 v10) st = .ok (xs.map .int) s1 := by
    have q1 : mCall p__law_widest gp__law_widest (mCons (mVar 5) mNil) (lg c x1 w s L v6 v7 v8 v9 v10) st = .ok (.int (widGo (fun j => ks.contains j) pages 0 0)) st := by
      simp [mCall, gp__law_widest, mCons, mNil, mVar, Res.bind, e2]
    have q2 : mOp oAdd (mCall p__law_widest gp__law_widest (mCons (mVar 5) mNil)) (mC (.int 1)) (lg c x1 w s L v6 v7 v8 v9 v10) st = .ok (.int (widGo (fun j => ks.contains j) pages 0 0 + 1)) st := by
      unfold mOp
      rw [q1]
      rfl
    have q3 : mOp oAdd (mC (.int 1)) (mCall p__law_draw gp__law_draw (mCons (mVar 2) (mCons (mC (.int 512)) mNil))) (lg c x1 w s L v6 v7 v8 v9 v10) st = .ok (.int (1 + t)) s1 := by
      unfold mOp
      simp only [mC, Res.bind]
      rw [e1]
      rfl
    rw [hxs]
    exact cons6 rfl rfl rfl q1 q2 q3
  have k2 : Keep s1 (s1.add (.lst (xs.map .int))) := Keep.add
  have I2 := I1.keep k2
  have g2 := get_add_new (st := s1) (o' := .lst (xs.map .int))
  have len : sz (xs.map PV.int).length = true := by unfold sz; rw [List.length_map, xl]; rfl
  have ew : mwE (mLst me6) (lg c x1 w s L v6 v7 v8 v9 v10) st = .ok (xs.map .int, [(s1.nx, .lst (xs.map .int))]) (s1.add (.lst (xs.map .int))) := by
    unfold mwE mLst
    rw [e3]
    simp only [Res.bind, len, if_true, mkNew, walkV, g2]
  obtain ⟨σ', st', ef, ⟨v8', hσ⟩, hs⟩ := forGo_inv (gd := [(s1.nx, .lst (xs.map .int))]) (g := gN 8) (b := b6) (fun σ s2 => (∃ v8, σ = lg c x1 w s L v6 v7 v8 v9 v10) ∧ s2 = s1.add (.lst (xs.map .int))) (fun σ s2 ⟨_, h⟩ => by simp [chk, h, g2]) (xs.map .int) (fun y hy σ s2 ⟨⟨v8, hσ⟩, hs2⟩ => by
      obtain ⟨x, _, rfl⟩ := List.mem_map.mp hy
      subst hσ
      subst hs2
      exact ⟨lg c x1 w s L v6 v7 (some (.int x)) v9 v10, _, _, rfl, b6_at I2 eq x, ⟨_, rfl⟩, rfl⟩) (lg c x1 w s L v6 v7 v8 v9 v10) _ ⟨⟨v8, rfl⟩, rfl⟩
  subst hσ
  subst hs
  refine ⟨v8', _, ?_, I2⟩
  unfold for6 sFor
  rw [ew]
  exact ef
theorem ifR_at (I : Inv5 st0 E w s d L step m N pg ks st) (hm : m < 10000000) : ∃ st', ifR (lg c x1 w s L v6 v7 v8 v9 v10) st = .nx (lg c x1 w s L v6 v7 v8 v9 v10) st' ∧ Inv5 st0 E w s d L step (m + 3) N pg ks st' := by
  obtain ⟨s1, e1, I1⟩ := refused_at I hm
  refine ⟨s1, ?_, I1⟩
  unfold ifR
  rw [sIf_ff (st1 := s1) (by simp [mNotT, mTru, mCall, gp__law_refused, mCons, mNil, mVar, Res.bind, e1, truP])]
  rfl
theorem ifF_at (I : Inv5 st0 E w s d L step m N pg ks st) (eq : ∀ j, has pg j = ks.contains j) (hN : N ≤ 60000) {n : Int} (h1 : 1 ≤ n) (h2 : n ≤ 512) :
    ∃ st', ifF (lg c x1 w s L v6 v7 (some (.int n)) v9 (some (optI (gapGo (has pg) n pages 0)))) st = .nx (lg c x1 w s L v6 v7 (some (.int n)) v9 (some (optI (gapGo (has pg) n pages 0)))) st' ∧ Keep st0 st' := by
  have l1 := I.l1
  have a0 : ∀ v : Option PV, mCall p_map_pages gp_map_pages_k0 (mCons (mVar 3) (mCons (mVar 4) (mCons (mVar 8) mNil))) (lg c x1 w s L v6 v7 (some (.int n)) v9 v) st = p_map_pages [.ref s, .int 1, .int n, .str "rw", .bl false, .non, .int 0, .non] st := fun v => by
    rw [mCall3 (x := .ref s) (y := .int 1) (z := .int n) (st1 := st) (st2 := st) (st3 := st) rfl rfl rfl]
    rfl
  cases hg : gapGo (has pg) n pages 0 with
  | some x =>
    obtain ⟨x0, x2⟩ := gap_bounds h1 pages 0 0 x pages_at (Int.le_refl 0) (Int.le_refl 0) (by rw [pages_len]; decide) hg
    obtain ⟨s1, pg', e1, S1, _, l4, n4, o4⟩ := map_ok (c := n) (at_ := .non) I.S (by omega) h1 h2 (place_gap I.S.dic hg x0 x2)
    have I1 := I.sys S1 n4 o4 (N' := N + 512) (by omega) (by omega)
    have k2 : Keep s1 (s1.add (.lst [.int x, .tup [.str "part", .str "at"]])) := Keep.add
    have es : mMapS (lg c x1 w s L v6 v7 (some (.int n)) v9 (some (optI (some x)))) st = .ok (.int x) s1 := said_ok (by rw [a0]; exact e1)
    have g2 := get_add_new (st := s1) (o' := .lst [.int x, .tup [.str "part", .str "at"]])
    refine ⟨_, ?_, I1.k.trans k2⟩
    unfold ifF
    rw [sIf_ff (st1 := s1.add (.lst [.int x, .tup [.str "part", .str "at"]])) (by
      unfold mTru mOp
      rw [es]
      simp [Res.bind, mAns, mIx, mLst, mCons, mNil, mVar, optI, mTup, mC, sz, mkNew, mB, mOp, oIsN, gInt, ixP, g2, atI, ixN, nei, truP])]
    rfl
  | none =>
    have e1 := map_err (c := n) (at_ := .non) I.S h1 h2 (place_none I.S.dic hg)
    have es : mMapS (lg c x1 w s L v6 v7 (some (.int n)) v9 (some (optI none))) st = .ok (.tup [.str "part", .str "at"]) st := said_part (by rw [a0]; exact e1)
    have k2 : Keep st (st.add (.lst [.non, .tup [.str "part", .str "at"]])) := Keep.add
    have g2 := get_add_new (st := st) (o' := .lst [.non, .tup [.str "part", .str "at"]])
    have e2 := pair_eq (st := st) (s2 := st.add (.lst [.non, .tup [.str "part", .str "at"]])) (a := "part") (x := .str "at") (.inr trivial)
    refine ⟨_, ?_, I.k.trans k2⟩
    unfold ifF
    rw [sIf_ff (st1 := st.add (.lst [.non, .tup [.str "part", .str "at"]])) (by
      unfold mTru mOp
      rw [es]
      simp [Res.bind, mAns, mIx, mLst, mCons, mNil, mVar, optI, mTup, mC, sz, mkNew, mB, mOp, oIsN, gInt, ixP, g2, atI, ixN, oNe, e2, truP])]
    rfl
end
end LW
set_option linter.all false
set_option maxRecDepth 100000
set_option maxHeartbeats 8000000
namespace LW
open MP PySem L2
def bBody : MS := (sSeq (sSet 2 (mCall p__law_well gp__law_well (mCons (mVar 1) mNil)))
    (sSeq (sSet 3 (mMake 9 p_System___init__ gp_System___init___k0 mNil mNil))
    (sSeq (sSet 4 (mCall p_spawn gp_spawn (mCons (mVar 3) mNil)))
    (sSeq (sSet 5 mDict0)
    (sSeq kF
    (sSeq if1
    (sSeq for6
    (sSeq ifR
    (sSeq (sSet 8 (mCnt me2))
    (sSeq (sSet 10 mDue)
    ifF))))))))))
def bLaw : MS := (sSeq (sFor (mwE (mOp oAdd (mSl (mVar 0) moNone (moSome (mC (.int 8)))) (mLst (mCons (mC (.int 0)) (mCons (mC (.int 1)) mNil))))) (gN 1) bBody) (sRet (mC (.bl true))))
theorem blaw_eq : b_law = bLaw := rfl
theorem body_at {st : Sto} {cell : Int} {c v2 v3 v4 v5 v6 v7 v8 v9 v10 : Option PV} : ∃ σ' st', bBody [c, some (.int cell), v2, v3, v4, v5, v6, v7, v8, v9, v10] st = .nx σ' st' ∧ (∃ v1 v2 v3 v4 v5 v6 v7 v8 v9 v10, σ' = [c, v1, v2, v3, v4, v5, v6, v7, v8, v9, v10]) ∧ Keep st st' := by
  obtain ⟨s1, e1, W1, b1⟩ := well_new (st := st) (cell := cell)
  have k1 : Keep st s1 := ⟨(b1 0).nx, fun m h => (b1 st.nx).eq m h (by omega)⟩
  obtain ⟨E, s2, e2, S2, p2, b2⟩ := sys_new (σ := [c, some (.int cell), some (.ref st.nx), v3, v4, v5, v6, v7, v8, v9, v10]) (st := s1)
  have k2 : Keep s1 s2 := ⟨(b2 0).nx, fun m h => (b2 s1.nx).eq m h (by omega)⟩
  obtain ⟨s3, e3, S3, n3, o3⟩ := spawn0 S2
  have lw := W1.lt
  have n1 := k1.nx
  have n2 := k2.nx
  have ls := Sto.lt_nx S2.a
  have lsp := Sto.lt_nx S2.b
  have W2 := W1.keep k2
  obtain ⟨a_, b_, c_, hw, hr⟩ := W2
  have W3 : Well s3 st.nx 0 := ⟨a_, b_, c_, (o3 _ (Sto.lt_nx hw) (by omega) (by omega)).trans hw, hr⟩
  have k3 : Keep st s3 := ⟨by omega, fun q hq => by
    rw [o3 q (by omega) (by omega) (by omega)]
    exact (k1.trans k2).eq q hq⟩
  have k4 : Keep s3 (s3.add (.dct [] false)) := Keep.add
  have q1 := Sto.lt_nx S3.b
  have q2 := Sto.lt_nx S3.c
  have q3 := Sto.lt_nx S3.f
  have I : Inv5 st E st.nx s1.nx s2.nx s3.nx 1 0 0 [] [] (s3.add (.dct [] false)) := ⟨S3.keep k4, W3.keep k4, get_add_new, Nat.le_refl _, Nat.le_refl _, by omega, by omega, by omega, Nat.le_refl _, by omega, by omega, by omega, k3.trans k4⟩
  obtain ⟨v6', v7', v8', v9', s5, pg, ks, step, e5, I5, eq5⟩ := kF_at (c := c) (x1 := some (.int cell)) (v6 := v6) (v7 := v7) (v8 := v8) (v9 := v9) (v10 := v10) I (fun j => rfl) (by omega)
  have e6 := if1_at (c := c) (x1 := some (.int cell)) (v6 := v6') (v7 := v7') (v8 := v8') (v9 := v9') (v10 := v10) I5 eq5
  obtain ⟨v8a, s7, e7, I7⟩ := for6_at (c := c) (x1 := some (.int cell)) (v6 := v6') (v7 := v7') (v8 := v8') (v9 := v9') (v10 := v10) I5 eq5 (by omega)
  obtain ⟨s8, e8, I8⟩ := ifR_at (c := c) (x1 := some (.int cell)) (v6 := v6') (v7 := v7') (v8 := v8a) (v9 := v9') (v10 := v10) I7 (by omega)
  obtain ⟨n, s9, e9, c1, c2, W9, b9⟩ := cnt_at (ms := me2) (xs := [5, 512]) (σ := lg c (some (.int cell)) st.nx s1.nx s3.nx v6' v7' v8a v9' v10) rfl I8.W (by omega) rfl (fun x hx => by
    simp only [List.mem_cons, List.not_mem_nil, or_false] at hx
    rcases hx with rfl | rfl <;> omega) (by simp) (by simp)
  have I9 := I8.well b9 W9
  have e10 := fits_at (lkv_dic I9.D) n
  rw [← Inv5.fn eq5] at e10
  obtain ⟨s11, e11, k11⟩ := ifF_at (c := c) (x1 := some (.int cell)) (v6 := v6') (v7 := v7') (v9 := v9') I9 eq5 (by omega) c1 c2
  refine ⟨_, s11, ?_, ⟨some (.int cell), some (.ref st.nx), some (.ref s1.nx), some (.int 1), some (.ref s3.nx), v6', v7', some (.int n), v9', some (optI (gapGo (has pg) n pages 0)), rfl⟩, k11⟩
  unfold bBody
  rw [sSeq_nx (σ1 := [c, some (.int cell), some (.ref st.nx), v3, v4, v5, v6, v7, v8, v9, v10]) (sSet_nx (st1 := s1) (v := .ref st.nx) (by
    simp [mCall, gp__law_well, mCons, mNil, mVar, Res.bind, e1]))]
  rw [sSeq_nx (σ1 := [c, some (.int cell), some (.ref st.nx), some (.ref s1.nx), v4, v5, v6, v7, v8, v9, v10]) (sSet_nx e2)]
  rw [sSeq_nx (σ1 := [c, some (.int cell), some (.ref st.nx), some (.ref s1.nx), some (.int 1), v5, v6, v7, v8, v9, v10]) (sSet_nx (st1 := s3) (v := .int 1) (by
    simp [mCall, gp_spawn, mCons, mNil, mVar, Res.bind, e3]))]
  rw [sSeq_nx (σ1 := lg c (some (.int cell)) st.nx s1.nx s3.nx v6 v7 v8 v9 v10) (sSet_nx (st1 := s3.add (.dct [] false)) (v := .ref s3.nx) (by rfl))]
  rw [sSeq_nx e5, sSeq_nx e6, sSeq_nx e7, sSeq_nx e8]
  rw [sSeq_nx (σ1 := lg c (some (.int cell)) st.nx s1.nx s3.nx v6' v7' (some (.int n)) v9' v10) (sSet_nx e9)]
  rw [sSeq_nx (σ1 := lg c (some (.int cell)) st.nx s1.nx s3.nx v6' v7' (some (.int n)) v9' (some (optI (gapGo (has pg) n pages 0)))) (sSet_nx (st1 := s9) (v := optI (gapGo (has pg) n pages 0)) (by
    rw [mDue, mCall2 (x := .ref s3.nx) (y := .int n) (st1 := s9) (st2 := s9) rfl rfl]
    exact e10))]
  exact e11
theorem pure_law (ns : List Int) (h : ns.length ≤ 63) (hb : ∀ z ∈ ns, Builtin.Int.intBits z ≤ 1048576) : ∃ s', p_law [.rls (ns.map .int)] ⟨#[]⟩ = .ok (.bl true) s' := by
  obtain ⟨xs, hxs⟩ : ∃ xs, xs = cutP (ns.map .int) none (some 8) := ⟨_, rfl⟩
  have sub : ∀ x ∈ xs, x ∈ ns.map PV.int := fun x hx => by
    rw [hxs] at hx
    unfold cutP at hx
    exact List.mem_of_mem_drop (List.mem_of_mem_take hx)
  have xl : xs.length ≤ 63 := by
    rw [hxs]
    unfold cutP
    rw [List.length_take, List.length_drop, List.length_map]
    omega
  have len : xs.length + 2 ≤ 16777216 := by omega
  have g0 : (((⟨#[]⟩ : Sto).add (.lst xs)).add (.lst [.int 0, .int 1])).get 0 = some (.lst xs) := rfl
  have g1 : (((⟨#[]⟩ : Sto).add (.lst xs)).add (.lst [.int 0, .int 1])).get 1 = some (.lst [.int 0, .int 1]) := rfl
  have g2 : ((((⟨#[]⟩ : Sto).add (.lst xs)).add (.lst [.int 0, .int 1])).add (.lst (xs ++ [.int 0, .int 1]))).get 2 = some (.lst (xs ++ [.int 0, .int 1])) := rfl
  have ew : mwE (mOp oAdd (mSl (mVar 0) moNone (moSome (mC (.int 8)))) (mLst (mCons (mC (.int 0)) (mCons (mC (.int 1)) mNil)))) [some (.rls (ns.map .int)), none, none, none, none, none, none, none, none, none, none] ⟨#[]⟩ =
      .ok (xs ++ [.int 0, .int 1], [(2, .lst (xs ++ [.int 0, .int 1]))]) ((((⟨#[]⟩ : Sto).add (.lst xs)).add (.lst [.int 0, .int 1])).add (.lst (xs ++ [.int 0, .int 1]))) := by
    have e1 : mSl (mVar 0) moNone (moSome (mC (.int 8))) [some (.rls (ns.map .int)), none, none, none, none, none, none, none, none, none, none] ⟨#[]⟩ = .ok (.ref 0) ((⟨#[]⟩ : Sto).add (.lst xs)) := by rw [hxs]; rfl
    have e2 : (mLst (mCons (mC (.int 0)) (mCons (mC (.int 1)) mNil))) [some (.rls (ns.map .int)), none, none, none, none, none, none, none, none, none, none] ((⟨#[]⟩ : Sto).add (.lst xs)) = .ok (.ref 1) (((⟨#[]⟩ : Sto).add (.lst xs)).add (.lst [.int 0, .int 1])) := rfl
    have e3 : oAdd (.ref 0) (.ref 1) (((⟨#[]⟩ : Sto).add (.lst xs)).add (.lst [.int 0, .int 1])) = .ok (.ref 2) ((((⟨#[]⟩ : Sto).add (.lst xs)).add (.lst [.int 0, .int 1])).add (.lst (xs ++ [.int 0, .int 1]))) := by
      simp [oAdd, tupP, oAddL, ownL, g0, g1, sz, len, mkNew]
      rfl
    unfold mwE mOp
    rw [e1]
    simp only [Res.bind, e2, e3]
    simp only [walkV, g2]
  obtain ⟨σ', st', e, ⟨hσ, hg⟩⟩ := forGo_inv (gd := [(2, .lst (xs ++ [.int 0, .int 1]))]) (g := gN 1) (b := bBody) (fun σ s => (∃ v1 v2 v3 v4 v5 v6 v7 v8 v9 v10, σ = [some (.rls (ns.map .int)), v1, v2, v3, v4, v5, v6, v7, v8, v9, v10]) ∧ s.get 2 = some (.lst (xs ++ [.int 0, .int 1])))
    (fun σ s ⟨_, h⟩ => by simp [chk, h]) (xs ++ [.int 0, .int 1]) (fun x hx σ s ⟨⟨v1, v2, v3, v4, v5, v6, v7, v8, v9, v10, hσ⟩, hg⟩ => by
      obtain ⟨cell, rfl⟩ : ∃ i, x = .int i := by
        rcases List.mem_append.mp hx with hx | hx
        · obtain ⟨i, _, q⟩ := List.mem_map.mp (sub x hx)
          exact ⟨i, q.symm⟩
        · simp at hx
          rcases hx with rfl | rfl
          · exact ⟨_, rfl⟩
          · exact ⟨_, rfl⟩
      subst hσ
      obtain ⟨σ3, s3, e3, h3, k3⟩ := body_at (st := s) (cell := cell) (c := some (.rls (ns.map .int))) (v2 := v2) (v3 := v3) (v4 := v4) (v5 := v5) (v6 := v6) (v7 := v7) (v8 := v8) (v9 := v9) (v10 := v10)
      exact ⟨_, σ3, s3, rfl, e3, h3, k3.get hg⟩)
    [some (.rls (ns.map .int)), none, none, none, none, none, none, none, none, none, none] _ ⟨⟨none, none, none, none, none, none, none, none, none, none, rfl⟩, g2⟩
  refine ⟨st', ?_⟩
  show outV (b_law [some (.rls (ns.map .int)), none, none, none, none, none, none, none, none, none, none] ⟨#[]⟩) = _
  rw [blaw_eq]
  unfold bLaw
  rw [sSeq_nx (σ1 := σ') (st1 := st') (by
    unfold sFor
    rw [ew]
    exact e)]
  rfl
end LW
set_option Elab.async false
set_option linter.all false
set_option maxRecDepth 100000
set_option maxHeartbeats 4000000
open PySem PySem.W PyProof.Rows
set_option maxRecDepth 100000 in
set_option maxHeartbeats 0 in
theorem PySem.Challenge.cw_pageclass_k05_gaps_holds : PySem.Challenge.rw_pageclass_k05_gaps.Holds := by
  w_on; o_law; k_head; (case hw => w_witness2)
  k_fill
  refine LamX.walk_ofTs (l := PySem.Challenge.rw_pageclass_k05_gaps) (n := 63) (k := 10) (x := "script") (CX := fun w => L2.CX PySem.Challenge.rw_pageclass_k05_gaps.prog w) rfl (by decide) rfl ⟨rfl, by decide, by decide⟩ (fun w h Y => PySem.W.km_in_of Y) ?F (fun _ _ _ _ _ ⟨_, _, _, _, _, _, _, _, _, _, _, _, z⟩ => z)
  case F =>
    intro w mg fa h Y KX G hmg
    refine' LW.all_mk LW.pure_law KX (PySem.W.km_tabs_of Y) G hmg ?aC0 ?kc0 ?ga0 ?gg0 ?eb0 ?hd0 ?ic0 ?tc0 ?aC1 ?kc1 ?ga1 ?gg1 ?eb1 ?hd1 ?ic1 ?tc1 ?aC2 ?kc2 ?ga2 ?gg2 ?eb2 ?hd2 ?ic2 ?tc2 ?aC3 ?kc3 ?ga3 ?gg3 ?eb3 ?hd3 ?ic3 ?tc3 ?aC4 ?kc4 ?ga4 ?gg4 ?eb4 ?hd4 ?ic4 ?tc4 ?aC5 ?kc5 ?ga5 ?gg5 ?eb5 ?hd5 ?ic5 ?tc5 ?aC6 ?kc6 ?pg6 ?hd6 ?po6 ?sa6 ?mk6 ?n6_0 ?n6_1 ?n6_2 ?n6_3 ?n6_4 ?n6_5 ?n6_6 ?aC7 ?kc7 ?pg7 ?hd7 ?po7 ?sa7 ?mk7 ?n7_0 ?n7_1 ?n7_2 ?n7_3 ?n7_4 ?n7_5 ?n7_6 ?aC8 ?kc8 ?pg8 ?hd8 ?po8 ?sa8 ?mk8 ?n8_0 ?n8_1 ?n8_2 ?n8_3 ?n8_4 ?n8_5 ?n8_6 ?n8_7 ?n8_8 ?n8_9 ?n8_10 ?n8_11 ?n8_12 ?n8_13 ?n8_14 ?aC9 ?kc9 ?pg9 ?hd9 ?po9 ?sa9 ?mk9 ?n9_0 ?n9_1 ?n9_2 ?n9_3 ?n9_4 ?n9_5 ?n9_6 ?n9_7 ?n9_8 ?n9_9 ?n9_10 ?n9_11 ?n9_12 ?n9_13 ?ss0_0 ?ss0_1 ?ss0_2 ?ss0_3 ?ss0_4 ?ss0_5 ?ss1_0 ?ss1_1 ?ss1_2 ?ss1_3 ?ss1_4 ?ss1_5 ?ss2_0 ?ss2_1 ?ss2_2 ?ss2_3 ?ss2_4 ?ss2_5 ?ss3_0 ?ss3_1 ?ss3_2 ?ss3_3 ?ss3_4 ?ss3_5 ?ss4_0 ?ss4_1 ?ss4_2 ?ss4_3 ?ss4_4 ?ss4_5 ?ss5_0 ?ss5_1 ?ss5_2 ?ss5_3 ?ss5_4 ?ss5_5 ?xn1 ?xl1 ?xb1 ?sa1 ?xn2 ?xl2 ?xb2 ?sa2 ?xn3 ?xl3 ?xb3 ?sa3 ?xn4 ?xl4 ?xb4 ?sa4 ?bg0 ?br0 ?be0 ?a_NoSystem___init__ ?i_NoSystem___init__ ?t_NoSystem___init__ ?l_NoSystem___init__ ?c_NoSystem___init___ ?k_NoSystem___init__ ?a_NoProcess___init__ ?i_NoProcess___init__ ?t_NoProcess___init__ ?l_NoProcess___init__ ?c_NoProcess___init___ ?k_NoProcess___init__ ?a_NoPages___init__ ?i_NoPages___init__ ?t_NoPages___init__ ?l_NoPages___init__ ?c_NoPages___init___ ?k_NoPages___init__ ?a_NoFile___init__ ?i_NoFile___init__ ?t_NoFile___init__ ?l_NoFile___init__ ?c_NoFile___init___ ?k_NoFile___init__ ?a__law_said ?l__law_said ?c__law_said_ ?k__law_said ?a_Memory___init__ ?i_Memory___init__ ?l_Memory___init__ ?c_Memory___init___ ?k_Memory___init__ ?a_Stack___init__ ?i_Stack___init__ ?l_Stack___init__ ?c_Stack___init___ ?k_Stack___init__ ?a_is_integer ?l_is_integer ?c_is_integer_ ?k_is_integer ?a_is_between ?l_is_between ?c_is_between_ ?k_is_between ?a_System___init__ ?i_System___init__ ?l_System___init__ ?c_System___init___ ?k_System___init__ ?w_System___init___frames ?w_System___init___slots ?w_System___init___strict ?a__law_draw ?l__law_draw ?c__law_draw_ ?k__law_draw ?a__law_fits ?l__law_fits ?c__law_fits_ ?k__law_fits ?a__law_one ?l__law_one ?c__law_one_ ?k__law_one ?a_check_process ?l_check_process ?c_check_process_ ?k_check_process ?a_gap_in ?l_gap_in ?c_gap_in_ ?k_gap_in ?a_gap ?l_gap ?c_gap_ ?k_gap ?a_Mapped___init__ ?i_Mapped___init__ ?l_Mapped___init__ ?c_Mapped___init___ ?k_Mapped___init__ ?a_Stack_put ?i_Stack_put ?l_Stack_put ?c_Stack_put_ ?k_Stack_put ?a_Stack_relock ?i_Stack_relock ?l_Stack_relock ?c_Stack_relock_ ?k_Stack_relock ?a_System_locked_items ?i_System_locked_items ?l_System_locked_items ?c_System_locked_items_ ?k_System_locked_items ?a_System_locked_pages ?i_System_locked_pages ?l_System_locked_pages ?c_System_locked_pages_ ?k_System_locked_pages ?a_System_settle ?i_System_settle ?l_System_settle ?c_System_settle_ ?k_System_settle ?a_sorted_pages ?l_sorted_pages ?c_sorted_pages_ ?k_sorted_pages ?a_places ?l_places ?c_places_ ?k_places ?a_tidy ?l_tidy ?c_tidy_ ?k_tidy ?a_System_done ?i_System_done ?l_System_done ?c_System_done_ ?k_System_done ?a_check_charge ?l_check_charge ?c_check_charge_ ?k_check_charge ?d_check_charge ?a_check_rights ?l_check_rights ?c_check_rights_ ?k_check_rights ?a_is_name ?l_is_name ?c_is_name_ ?k_is_name ?a_check_source ?l_check_source ?c_check_source_ ?k_check_source ?a_place_for ?l_place_for ?c_place_for_ ?k_place_for ?a_let_go ?l_let_go ?c_let_go_ ?k_let_go ?a_remove ?l_remove ?c_remove_ ?k_remove ?a_map_pages ?l_map_pages ?c_map_pages_ ?k_map_pages ?w_map_pages_rights ?w_map_pages_shared ?w_map_pages_source ?w_map_pages_index ?w_map_pages_at ?a_Mapped_attributes ?i_Mapped_attributes ?l_Mapped_attributes ?c_Mapped_attributes_ ?k_Mapped_attributes ?a_follows ?l_follows ?c_follows_ ?k_follows ?a_regions ?l_regions ?c_regions_ ?k_regions ?a_widest ?l_widest ?c_widest_ ?k_widest ?a__law_refused ?l__law_refused ?c__law_refused_ ?k__law_refused ?lc__law_refused ?p__law_refused_ ?hc__law_refused ?np__law_refused ?mt__law_refused ?a__law_well ?l__law_well ?c__law_well_ ?k__law_well ?a__law_widest ?l__law_widest ?c__law_widest_ ?k__law_widest ?a_new_process ?l_new_process ?c_new_process_ ?k_new_process ?a_spawn ?l_spawn ?c_spawn_ ?k_spawn ?a_check_range ?l_check_range ?c_check_range_ ?k_check_range ?a_unmap ?l_unmap ?c_unmap_ ?k_unmap ?a_law ?l_law ?c_law_ ?k_law ?lc_law ?p_law_ ?hc_law ?np_law ?mt_law ?ne__law_refused_law ?g_LETTERS ?g_PAGES ?g_RIGHTS ?gl_RIGHTS ?no_range ?no_enumerate ?no_zip ?no_len ?no_int ?no_abs ?no_isinstance ?no_sum ?no_any ?no_all ?no_sorted ?no_list ?no_max ?no_min ?no_bool ?no_str ?no_tuple ?no_dict
    (case aC0 => k_is)
    (case kc0 => k_is)
    (case ga0 => k_is)
    (case gg0 => k_is)
    (case eb0 => k_is)
    (case hd0 => k_is)
    (case ic0 => k_is)
    (case tc0 => k_is)
    (case aC1 => k_is)
    (case kc1 => k_is)
    (case ga1 => k_is)
    (case gg1 => k_is)
    (case eb1 => k_is)
    (case hd1 => k_is)
    (case ic1 => k_is)
    (case tc1 => k_is)
    (case aC2 => k_is)
    (case kc2 => k_is)
    (case ga2 => k_is)
    (case gg2 => k_is)
    (case eb2 => k_is)
    (case hd2 => k_is)
    (case ic2 => k_is)
    (case tc2 => k_is)
    (case aC3 => k_is)
    (case kc3 => k_is)
    (case ga3 => k_is)
    (case gg3 => k_is)
    (case eb3 => k_is)
    (case hd3 => k_is)
    (case ic3 => k_is)
    (case tc3 => k_is)
    (case aC4 => k_is)
    (case kc4 => k_is)
    (case ga4 => k_is)
    (case gg4 => k_is)
    (case eb4 => k_is)
    (case hd4 => k_is)
    (case ic4 => k_is)
    (case tc4 => k_is)
    (case aC5 => k_is)
    (case kc5 => k_is)
    (case ga5 => k_is)
    (case gg5 => k_is)
    (case eb5 => k_is)
    (case hd5 => k_is)
    (case ic5 => k_is)
    (case tc5 => k_is)
    (case aC6 => k_is)
    (case kc6 => k_is)
    (case pg6 => k_is)
    (case hd6 => k_is)
    (case po6 => k_is)
    (case sa6 => k_is)
    (case mk6 => k_is)
    (case n6_0 => k_is)
    (case n6_1 => k_is)
    (case n6_2 => k_is)
    (case n6_3 => k_is)
    (case n6_4 => k_is)
    (case n6_5 => k_is)
    (case n6_6 => k_is)
    (case aC7 => k_is)
    (case kc7 => k_is)
    (case pg7 => k_is)
    (case hd7 => k_is)
    (case po7 => k_is)
    (case sa7 => k_is)
    (case mk7 => k_is)
    (case n7_0 => k_is)
    (case n7_1 => k_is)
    (case n7_2 => k_is)
    (case n7_3 => k_is)
    (case n7_4 => k_is)
    (case n7_5 => k_is)
    (case n7_6 => k_is)
    (case aC8 => k_is)
    (case kc8 => k_is)
    (case pg8 => k_is)
    (case hd8 => k_is)
    (case po8 => k_is)
    (case sa8 => k_is)
    (case mk8 => k_is)
    (case n8_0 => k_is)
    (case n8_1 => k_is)
    (case n8_2 => k_is)
    (case n8_3 => k_is)
    (case n8_4 => k_is)
    (case n8_5 => k_is)
    (case n8_6 => k_is)
    (case n8_7 => k_is)
    (case n8_8 => k_is)
    (case n8_9 => k_is)
    (case n8_10 => k_is)
    (case n8_11 => k_is)
    (case n8_12 => k_is)
    (case n8_13 => k_is)
    (case n8_14 => k_is)
    (case aC9 => k_is)
    (case kc9 => k_is)
    (case pg9 => k_is)
    (case hd9 => k_is)
    (case po9 => k_is)
    (case sa9 => k_is)
    (case mk9 => k_is)
    (case n9_0 => k_is)
    (case n9_1 => k_is)
    (case n9_2 => k_is)
    (case n9_3 => k_is)
    (case n9_4 => k_is)
    (case n9_5 => k_is)
    (case n9_6 => k_is)
    (case n9_7 => k_is)
    (case n9_8 => k_is)
    (case n9_9 => k_is)
    (case n9_10 => k_is)
    (case n9_11 => k_is)
    (case n9_12 => k_is)
    (case n9_13 => k_is)
    (case ss0_0 => first | rfl | k_is)
    (case ss0_1 => first | rfl | k_is)
    (case ss0_2 => first | rfl | k_is)
    (case ss0_3 => first | rfl | k_is)
    (case ss0_4 => first | rfl | k_is)
    (case ss0_5 => first | rfl | k_is)
    (case ss1_0 => first | rfl | k_is)
    (case ss1_1 => first | rfl | k_is)
    (case ss1_2 => first | rfl | k_is)
    (case ss1_3 => first | rfl | k_is)
    (case ss1_4 => first | rfl | k_is)
    (case ss1_5 => first | rfl | k_is)
    (case ss2_0 => first | rfl | k_is)
    (case ss2_1 => first | rfl | k_is)
    (case ss2_2 => first | rfl | k_is)
    (case ss2_3 => first | rfl | k_is)
    (case ss2_4 => first | rfl | k_is)
    (case ss2_5 => first | rfl | k_is)
    (case ss3_0 => first | rfl | k_is)
    (case ss3_1 => first | rfl | k_is)
    (case ss3_2 => first | rfl | k_is)
    (case ss3_3 => first | rfl | k_is)
    (case ss3_4 => first | rfl | k_is)
    (case ss3_5 => first | rfl | k_is)
    (case ss4_0 => first | rfl | k_is)
    (case ss4_1 => first | rfl | k_is)
    (case ss4_2 => first | rfl | k_is)
    (case ss4_3 => first | rfl | k_is)
    (case ss4_4 => first | rfl | k_is)
    (case ss4_5 => first | rfl | k_is)
    (case ss5_0 => first | rfl | k_is)
    (case ss5_1 => first | rfl | k_is)
    (case ss5_2 => first | rfl | k_is)
    (case ss5_3 => first | rfl | k_is)
    (case ss5_4 => first | rfl | k_is)
    (case ss5_5 => first | rfl | k_is)
    (case xn1 => k_is)
    (case xl1 => k_is)
    (case xb1 => decide +kernel)
    (case sa1 => k_is)
    (case xn2 => k_is)
    (case xl2 => k_is)
    (case xb2 => decide +kernel)
    (case sa2 => k_is)
    (case xn3 => k_is)
    (case xl3 => k_is)
    (case xb3 => decide +kernel)
    (case sa3 => k_is)
    (case xn4 => k_is)
    (case xl4 => k_is)
    (case xb4 => decide +kernel)
    (case sa4 => k_is)
    (case bg0 => k_is)
    (case br0 => k_is)
    (case be0 => k_is)
    (case a_NoSystem___init__ => k_is)
    (case i_NoSystem___init__ => k_is)
    (case t_NoSystem___init__ => k_is)
    (case l_NoSystem___init__ => k_is)
    (case c_NoSystem___init___ => k_is)
    (case k_NoSystem___init__ => k_is)
    (case a_NoProcess___init__ => k_is)
    (case i_NoProcess___init__ => k_is)
    (case t_NoProcess___init__ => k_is)
    (case l_NoProcess___init__ => k_is)
    (case c_NoProcess___init___ => k_is)
    (case k_NoProcess___init__ => k_is)
    (case a_NoPages___init__ => k_is)
    (case i_NoPages___init__ => k_is)
    (case t_NoPages___init__ => k_is)
    (case l_NoPages___init__ => k_is)
    (case c_NoPages___init___ => k_is)
    (case k_NoPages___init__ => k_is)
    (case a_NoFile___init__ => k_is)
    (case i_NoFile___init__ => k_is)
    (case t_NoFile___init__ => k_is)
    (case l_NoFile___init__ => k_is)
    (case c_NoFile___init___ => k_is)
    (case k_NoFile___init__ => k_is)
    (case a__law_said => k_is)
    (case l__law_said => k_is)
    (case c__law_said_ => k_is)
    (case k__law_said => k_is)
    (case a_Memory___init__ => k_is)
    (case i_Memory___init__ => k_is)
    (case l_Memory___init__ => k_is)
    (case c_Memory___init___ => k_is)
    (case k_Memory___init__ => k_is)
    (case a_Stack___init__ => k_is)
    (case i_Stack___init__ => k_is)
    (case l_Stack___init__ => k_is)
    (case c_Stack___init___ => k_is)
    (case k_Stack___init__ => k_is)
    (case a_is_integer => k_is)
    (case l_is_integer => k_is)
    (case c_is_integer_ => k_is)
    (case k_is_integer => k_is)
    (case a_is_between => k_is)
    (case l_is_between => k_is)
    (case c_is_between_ => k_is)
    (case k_is_between => k_is)
    (case a_System___init__ => k_is)
    (case i_System___init__ => k_is)
    (case l_System___init__ => k_is)
    (case c_System___init___ => k_is)
    (case k_System___init__ => k_is)
    (case w_System___init___frames => k_is)
    (case w_System___init___slots => k_is)
    (case w_System___init___strict => k_is)
    (case a__law_draw => k_is)
    (case l__law_draw => k_is)
    (case c__law_draw_ => k_is)
    (case k__law_draw => k_is)
    (case a__law_fits => k_is)
    (case l__law_fits => k_is)
    (case c__law_fits_ => k_is)
    (case k__law_fits => k_is)
    (case a__law_one => k_is)
    (case l__law_one => k_is)
    (case c__law_one_ => k_is)
    (case k__law_one => k_is)
    (case a_check_process => k_is)
    (case l_check_process => k_is)
    (case c_check_process_ => k_is)
    (case k_check_process => k_is)
    (case a_gap_in => k_is)
    (case l_gap_in => k_is)
    (case c_gap_in_ => k_is)
    (case k_gap_in => k_is)
    (case a_gap => k_is)
    (case l_gap => k_is)
    (case c_gap_ => k_is)
    (case k_gap => k_is)
    (case a_Mapped___init__ => k_is)
    (case i_Mapped___init__ => k_is)
    (case l_Mapped___init__ => k_is)
    (case c_Mapped___init___ => k_is)
    (case k_Mapped___init__ => k_is)
    (case a_Stack_put => k_is)
    (case i_Stack_put => k_is)
    (case l_Stack_put => k_is)
    (case c_Stack_put_ => k_is)
    (case k_Stack_put => k_is)
    (case a_Stack_relock => k_is)
    (case i_Stack_relock => k_is)
    (case l_Stack_relock => k_is)
    (case c_Stack_relock_ => k_is)
    (case k_Stack_relock => k_is)
    (case a_System_locked_items => k_is)
    (case i_System_locked_items => k_is)
    (case l_System_locked_items => k_is)
    (case c_System_locked_items_ => k_is)
    (case k_System_locked_items => k_is)
    (case a_System_locked_pages => k_is)
    (case i_System_locked_pages => k_is)
    (case l_System_locked_pages => k_is)
    (case c_System_locked_pages_ => k_is)
    (case k_System_locked_pages => k_is)
    (case a_System_settle => k_is)
    (case i_System_settle => k_is)
    (case l_System_settle => k_is)
    (case c_System_settle_ => k_is)
    (case k_System_settle => k_is)
    (case a_sorted_pages => k_is)
    (case l_sorted_pages => k_is)
    (case c_sorted_pages_ => k_is)
    (case k_sorted_pages => k_is)
    (case a_places => k_is)
    (case l_places => k_is)
    (case c_places_ => k_is)
    (case k_places => k_is)
    (case a_tidy => k_is)
    (case l_tidy => k_is)
    (case c_tidy_ => k_is)
    (case k_tidy => k_is)
    (case a_System_done => k_is)
    (case i_System_done => k_is)
    (case l_System_done => k_is)
    (case c_System_done_ => k_is)
    (case k_System_done => k_is)
    (case a_check_charge => k_is)
    (case l_check_charge => k_is)
    (case c_check_charge_ => k_is)
    (case k_check_charge => k_is)
    (case d_check_charge => k_is)
    (case a_check_rights => k_is)
    (case l_check_rights => k_is)
    (case c_check_rights_ => k_is)
    (case k_check_rights => k_is)
    (case a_is_name => k_is)
    (case l_is_name => k_is)
    (case c_is_name_ => k_is)
    (case k_is_name => k_is)
    (case a_check_source => k_is)
    (case l_check_source => k_is)
    (case c_check_source_ => k_is)
    (case k_check_source => k_is)
    (case a_place_for => k_is)
    (case l_place_for => k_is)
    (case c_place_for_ => k_is)
    (case k_place_for => k_is)
    (case a_let_go => k_is)
    (case l_let_go => k_is)
    (case c_let_go_ => k_is)
    (case k_let_go => k_is)
    (case a_remove => k_is)
    (case l_remove => k_is)
    (case c_remove_ => k_is)
    (case k_remove => k_is)
    (case a_map_pages => k_is)
    (case l_map_pages => k_is)
    (case c_map_pages_ => k_is)
    (case k_map_pages => k_is)
    (case w_map_pages_rights => k_is)
    (case w_map_pages_shared => k_is)
    (case w_map_pages_source => k_is)
    (case w_map_pages_index => k_is)
    (case w_map_pages_at => k_is)
    (case a_Mapped_attributes => k_is)
    (case i_Mapped_attributes => k_is)
    (case l_Mapped_attributes => k_is)
    (case c_Mapped_attributes_ => k_is)
    (case k_Mapped_attributes => k_is)
    (case a_follows => k_is)
    (case l_follows => k_is)
    (case c_follows_ => k_is)
    (case k_follows => k_is)
    (case a_regions => k_is)
    (case l_regions => k_is)
    (case c_regions_ => k_is)
    (case k_regions => k_is)
    (case a_widest => k_is)
    (case l_widest => k_is)
    (case c_widest_ => k_is)
    (case k_widest => k_is)
    (case a__law_refused => k_is)
    (case l__law_refused => k_is)
    (case c__law_refused_ => k_is)
    (case k__law_refused => k_is)
    (case lc__law_refused => k_is)
    (case p__law_refused_ => rfl)
    (case hc__law_refused => rfl)
    (case np__law_refused => rfl)
    (case mt__law_refused => decide)
    (case a__law_well => k_is)
    (case l__law_well => k_is)
    (case c__law_well_ => k_is)
    (case k__law_well => k_is)
    (case a__law_widest => k_is)
    (case l__law_widest => k_is)
    (case c__law_widest_ => k_is)
    (case k__law_widest => k_is)
    (case a_new_process => k_is)
    (case l_new_process => k_is)
    (case c_new_process_ => k_is)
    (case k_new_process => k_is)
    (case a_spawn => k_is)
    (case l_spawn => k_is)
    (case c_spawn_ => k_is)
    (case k_spawn => k_is)
    (case a_check_range => k_is)
    (case l_check_range => k_is)
    (case c_check_range_ => k_is)
    (case k_check_range => k_is)
    (case a_unmap => k_is)
    (case l_unmap => k_is)
    (case c_unmap_ => k_is)
    (case k_unmap => k_is)
    (case a_law => k_is)
    (case l_law => k_is)
    (case c_law_ => k_is)
    (case k_law => k_is)
    (case lc_law => k_is)
    (case p_law_ => rfl)
    (case hc_law => rfl)
    (case np_law => rfl)
    (case mt_law => decide)
    (case ne__law_refused_law => decide)
    (case g_LETTERS => k_is)
    (case g_PAGES => k_is)
    (case g_RIGHTS => k_is)
    (case gl_RIGHTS => k_is)
    (case no_range => k_is)
    (case no_enumerate => k_is)
    (case no_zip => k_is)
    (case no_len => k_is)
    (case no_int => k_is)
    (case no_abs => k_is)
    (case no_isinstance => k_is)
    (case no_sum => k_is)
    (case no_any => k_is)
    (case no_all => k_is)
    (case no_sorted => k_is)
    (case no_list => k_is)
    (case no_max => k_is)
    (case no_min => k_is)
    (case no_bool => k_is)
    (case no_str => k_is)
    (case no_tuple => k_is)
    (case no_dict => k_is)

