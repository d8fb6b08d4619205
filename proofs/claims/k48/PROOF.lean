import PyProof.Rows.All
import Wide.All
import OpenK.AllK
import Wide.FinOn
import HandS.ForMost
import HandS.Defaults
import HandS.TupAny
import KE.SortData
import KE.DataCmp
import HandS.ClsMeth
import HandS.IsInst
import HandS.Property
import HandS.Iter
import PyProof.RulesMatchSeq
import PyProof.Rows.MatchSeqLen
import HandS.HeadHook1
import HandS.HeadNt
import HandS.Codes
import HandS.Exc
import PySem.Challenge.RW_guestscarried_k48_whole_carry_repairs_ar
set_option Elab.async false
set_option linter.all false
set_option maxRecDepth 100000
/-! G1: logical values, objects, heaps, and what it is that a heap of HandS holds one of them. -/
namespace G
open PySem PySem.Spec PyProof.Rows L2

/-- a logical value: tuples and unchanging lists whole, other objects by their place in the logical heap -/
inductive LV where
  | non | bl (b : Bool) | int (i : Int) | str (x : String) | tup (xs : List LV) | fl (xs : List LV) | ob (C : String) (ns : List String) (xs : List LV) | ref (i : Nat)
  deriving Inhabited

mutual
def LV.eqb : LV → LV → Bool
  | .non, .non => true
  | .bl a, .bl b => a == b
  | .int a, .int b => a == b
  | .str a, .str b => a == b
  | .tup a, .tup b => LV.eqbs a b
  | .fl a, .fl b => LV.eqbs a b
  | .ob c n a, .ob d m b => c == d && (n == m && LV.eqbs a b)
  | .ref a, .ref b => a == b
  | _, _ => false
def LV.eqbs : List LV → List LV → Bool
  | [], [] => true
  | a :: r, b :: s => a.eqb b && LV.eqbs r s
  | _, _ => false
end
mutual
theorem LV.eqb_iff : ∀ a b : LV, a.eqb b = true ↔ a = b
  | .non, b => by cases b <;> simp [LV.eqb]
  | .bl a, b => by cases b <;> simp [LV.eqb]
  | .int a, b => by cases b <;> simp [LV.eqb]
  | .str a, b => by cases b <;> simp [LV.eqb]
  | .ref a, b => by cases b <;> simp [LV.eqb]
  | .tup a, b => by
    cases b with
    | tup b => simp only [LV.eqb, LV.tup.injEq]; exact LV.eqbs_iff a b
    | _ => simp [LV.eqb]
  | .fl a, b => by
    cases b with
    | fl b => simp only [LV.eqb, LV.fl.injEq]; exact LV.eqbs_iff a b
    | _ => simp [LV.eqb]
  | .ob c n a, b => by
    cases b with
    | ob d m b => simp only [LV.eqb, LV.ob.injEq, Bool.and_eq_true, beq_iff_eq, LV.eqbs_iff a b]
    | _ => simp [LV.eqb]
theorem LV.eqbs_iff : ∀ a b : List LV, LV.eqbs a b = true ↔ a = b
  | [], b => by cases b <;> simp [LV.eqbs]
  | a :: r, b => by
    cases b with
    | nil => simp [LV.eqbs]
    | cons b s => simp only [LV.eqbs, Bool.and_eq_true, List.cons.injEq, LV.eqb_iff a b, LV.eqbs_iff r s]
end
instance : DecidableEq LV := fun a b => decidable_of_iff _ (LV.eqb_iff a b)

/-- a logical object -/
inductive LO where
  | lst (xs : List LV)
  | dic (kvs : List (LV × LV))
  | ins (C : String) (fs : List (String × LV))
  deriving Inhabited, DecidableEq

abbrev LH := List LO

/-- the classes' addresses: what the module's names hold -/
abbrev CA := String → Option Addr
/-- a list that nobody writes: the script, a list of the module, one that is no longer the logical heap's -/
def FzL (K : PySem.W.Frag) (ρ : List Addr) (H : Hp) (a : Addr) (ys : List V) : Prop :=
  (H a = some (.lst ys) ∧ a ∉ ρ) ∨ (∃ o, H a = some (.frz o (.lst ys))) ∨
    ∃ (its : Array Value) (n : Nat) (sl : Array (Option Value)), K.lookup a = some { cls := .type "list", dict := none, data := .seq its n, slots := sl } ∧ its.size ≤ sizeLine ∧ Vals ys its.toList
theorem FzL.sq {K : PySem.W.Frag} {ρ : List Addr} {H : Hp} {a : Addr} {ys : List V} (h : FzL K ρ H a ys) : SqL K H a ys := by
  rcases h with ⟨h, _⟩ | ⟨o, h⟩ | h
  · exact SqL.of h
  · exact .inl (.inr ⟨o, h⟩)
  · obtain ⟨its, n, sl, h1, h2, h3⟩ := h
    exact .inr ⟨_, its, n, h1, rfl, rfl, rfl, h2, h3⟩
/-- a list, its object known -/
def LsX (K : PySem.W.Frag) (H : Hp) (a : Addr) (ys : List V) : Prop :=
  H a = some (.lst ys) ∨ (∃ o, H a = some (.frz o (.lst ys))) ∨
    ∃ (its : Array Value) (n : Nat) (sl : Array (Option Value)), K.lookup a = some { cls := .type "list", dict := none, data := .seq its n, slots := sl } ∧ its.size ≤ sizeLine ∧ Vals ys its.toList
theorem FzL.x {K : PySem.W.Frag} {ρ : List Addr} {H : Hp} {a : Addr} {ys : List V} (h : FzL K ρ H a ys) : LsX K H a ys := by
  rcases h with ⟨h, _⟩ | h | h
  · exact .inl h
  · exact .inr (.inl h)
  · exact .inr (.inr h)

section
variable (K : PySem.W.Frag) (cl : CA) (ρ : List Addr) (H : Hp)
mutual
/-- the value v stands for the logical value -/
def RV : LV → V → Prop
  | .non, v => v = .non
  | .bl b, v => v = .bl b
  | .int i, v => v = .int i
  | .str x, v => v = .str (Str.ofString x)
  | .tup xs, v => ∃ a ys, v = .ref a ∧ SqT K H a ys ∧ RVs xs ys
  | .fl xs, v => ∃ a ys, v = .ref a ∧ FzL K ρ H a ys ∧ RVs xs ys
  | .ob C ns xs, v => ∃ a c dx ys, v = .ref a ∧ cl C = some c ∧ H a = some (.ins c dx ((ns.map Str.ofString).zip ys)) ∧ a ∉ ρ ∧ ns.length = xs.length ∧ RVs xs ys
  | .ref i, v => ∃ a, v = .ref a ∧ ρ[i]? = some a
def RVs : List LV → List V → Prop
  | [], ys => ys = []
  | x :: xs, ys => ∃ y r, ys = y :: r ∧ RV x y ∧ RVs xs r
end
end


def keyV : LV → Option Key
  | .int i => some (.inl i)
  | .str x => some (.inr (Str.ofString x))
  | _ => none

def RFs (K : PySem.W.Frag) (cl : CA) (ρ : List Addr) (H : Hp) : List (String × LV) → List (Str × V) → Prop
  | [], ys => ys = []
  | (f, x) :: fs, ys => ∃ y r, ys = (Str.ofString f, y) :: r ∧ RV K cl ρ H x y ∧ RFs K cl ρ H fs r
def RKs (K : PySem.W.Frag) (cl : CA) (ρ : List Addr) (H : Hp) : List (LV × LV) → List (Key × V) → Prop
  | [], ys => ys = []
  | (k, x) :: fs, ys => ∃ k' y r, keyV k = some k' ∧ ys = (k', y) :: r ∧ RV K cl ρ H x y ∧ RKs K cl ρ H fs r

/-- what stands at a is the logical object -/
def RO (K : PySem.W.Frag) (cl : CA) (ρ : List Addr) (H : Hp) (a : Addr) : LO → Prop
  | .lst xs => ∃ ys, H a = some (.lst ys) ∧ RVs K cl ρ H xs ys
  | .dic kvs => ∃ ys, H a = some (.dK ys) ∧ RKs K cl ρ H kvs ys
  | .ins C fs => ∃ c dx ys, cl C = some c ∧ H a = some (.ins c dx ys) ∧ RFs K cl ρ H fs ys

/-- the heap holds the logical heap at the places ρ -/
structure Em (K : PySem.W.Frag) (cl : CA) (ρ : List Addr) (L : LH) (H : Hp) : Prop where
  len : ρ.length = L.length
  nd : ρ.Nodup
  obj : ∀ (i : Nat) (o : LO) (a : Addr), L[i]? = some o → ρ[i]? = some a → RO K cl ρ H a o

/-- a later place: what was not the logical heap's stands as it stood -/
structure Nx (ρ ρ' : List Addr) (H H' : Hp) : Prop where
  pre : ρ <+: ρ'
  fr : ∀ a o, H a = some o → a ∉ ρ → H' a = some o ∧ a ∉ ρ'
theorem Nx.refl {ρ : List Addr} {H : Hp} : Nx ρ ρ H H := ⟨List.prefix_refl _, fun _ _ h n => ⟨h, n⟩⟩
theorem Nx.trans {ρ ρ1 ρ2 : List Addr} {H H1 H2 : Hp} (a : Nx ρ ρ1 H H1) (b : Nx ρ1 ρ2 H1 H2) : Nx ρ ρ2 H H2 :=
  ⟨a.pre.trans b.pre, fun c o h n => by
    obtain ⟨h1, n1⟩ := a.fr c o h n
    exact b.fr c o h1 n1⟩

def isMut : HO → Bool
  | .lst _ => true
  | .dK _ => true
  | .ins _ _ _ => true
  | _ => false
section
variable {K : PySem.W.Frag} {cl : CA} {ρ ρ' : List Addr} {H H' : Hp} {L : LH}
theorem Em.at (e : Em K cl ρ L H) {i : Nat} {a : Addr} (h : ρ[i]? = some a) : ∃ o, L[i]? = some o := by
  have hi : i < ρ.length := (List.getElem?_eq_some_iff.mp h).1
  exact ⟨L[i]'(by rw [← e.len]; exact hi), List.getElem?_eq_getElem _⟩
theorem Em.adr (e : Em K cl ρ L H) {i : Nat} {o : LO} (h : L[i]? = some o) : ∃ a, ρ[i]? = some a := by
  have hi : i < L.length := (List.getElem?_eq_some_iff.mp h).1
  exact ⟨ρ[i]'(by rw [e.len]; exact hi), List.getElem?_eq_getElem _⟩
theorem RO.mut {a : Addr} {o : LO} (h : RO K cl ρ H a o) : ∃ u, H a = some u ∧ isMut u = true := by
  cases o with
  | lst xs => obtain ⟨ys, h, _⟩ := h; exact ⟨_, h, rfl⟩
  | dic xs => obtain ⟨ys, h, _⟩ := h; exact ⟨_, h, rfl⟩
  | ins C fs => obtain ⟨c, dx, ys, _, h, _⟩ := h; exact ⟨_, h, rfl⟩
theorem Em.mem_mut (e : Em K cl ρ L H) {a : Addr} (h : a ∈ ρ) : ∃ u, H a = some u ∧ isMut u = true := by
  obtain ⟨i, hi, rfl⟩ := List.mem_iff_getElem.mp h
  have h1 : ρ[i]? = some ρ[i] := List.getElem?_eq_getElem hi
  obtain ⟨o, ho⟩ := e.at h1
  exact (e.obj i o _ ho h1).mut
theorem Em.notMem (e : Em K cl ρ L H) {a : Addr} {u : HO} (h : H a = some u) (m : isMut u = false) : a ∉ ρ := fun hm => by
  obtain ⟨v, hv, q⟩ := e.mem_mut hm
  rw [h] at hv; cases hv; rw [m] at q; cases q
theorem Em.notMemNone (e : Em K cl ρ L H) {a : Addr} (h : H a = none) : a ∉ ρ := fun hm => by
  obtain ⟨v, hv, q⟩ := e.mem_mut hm
  rw [h] at hv; cases hv
theorem pre_get {i : Nat} {a : Addr} (p : ρ <+: ρ') (h : ρ[i]? = some a) : ρ'[i]? = some a := by
  obtain ⟨t, rfl⟩ := p
  rw [List.getElem?_append_left (List.getElem?_eq_some_iff.mp h).1]
  exact h
theorem SqT.nx (e : Em K cl ρ L H) (n : Nx ρ ρ' H H') {a : Addr} {ys : List V} (h : SqT K H a ys) : SqT K H' a ys := by
  rcases h with (h | ⟨o, h⟩) | h
  · exact .inl (.inl (n.fr _ _ h (e.notMem h rfl)).1)
  · exact .inl (.inr ⟨o, (n.fr _ _ h (e.notMem h rfl)).1⟩)
  · exact .inr h
theorem FzL.nx (e : Em K cl ρ L H) (n : Nx ρ ρ' H H') {a : Addr} {ys : List V} (h : FzL K ρ H a ys) : FzL K ρ' H' a ys := by
  rcases h with ⟨h, q⟩ | ⟨o, h⟩ | h
  · exact .inl (n.fr _ _ h q)
  · exact .inr (.inl ⟨o, (n.fr _ _ h (e.notMem h rfl)).1⟩)
  · exact .inr (.inr h)
mutual
theorem RV.nx (e : Em K cl ρ L H) (n : Nx ρ ρ' H H') : ∀ {x : LV} {v : V}, RV K cl ρ H x v → RV K cl ρ' H' x v
  | .non, _, h => h
  | .bl _, _, h => h
  | .int _, _, h => h
  | .str _, _, h => h
  | .tup xs, v, h => by
    obtain ⟨a, ys, h1, h2, h3⟩ := h
    exact ⟨a, ys, h1, SqT.nx e n h2, RVs.nx e n h3⟩
  | .fl xs, v, h => by
    obtain ⟨a, ys, h1, h2, h3⟩ := h
    exact ⟨a, ys, h1, FzL.nx e n h2, RVs.nx e n h3⟩
  | .ob C ns xs, v, h => by
    obtain ⟨a, c, dx, ys, h1, h2, h3, h4, h5, h6⟩ := h
    obtain ⟨q1, q2⟩ := n.fr _ _ h3 h4
    exact ⟨a, c, dx, ys, h1, h2, q1, q2, h5, RVs.nx e n h6⟩
  | .ref i, v, h => by
    obtain ⟨a, h1, h2⟩ := h
    exact ⟨a, h1, pre_get n.pre h2⟩
theorem RVs.nx (e : Em K cl ρ L H) (n : Nx ρ ρ' H H') : ∀ {xs : List LV} {vs : List V}, RVs K cl ρ H xs vs → RVs K cl ρ' H' xs vs
  | [], _, h => h
  | x :: xs, _, h => by
    obtain ⟨y, r, h1, h2, h3⟩ := h
    exact ⟨y, r, h1, RV.nx e n h2, RVs.nx e n h3⟩
end
theorem RFs.nx (e : Em K cl ρ L H) (n : Nx ρ ρ' H H') : ∀ {xs : List (String × LV)} {vs : List (Str × V)}, RFs K cl ρ H xs vs → RFs K cl ρ' H' xs vs
  | [], _, h => h
  | x :: xs, _, h => by
    obtain ⟨y, r, h1, h2, h3⟩ := h
    exact ⟨y, r, h1, RV.nx e n h2, RFs.nx e n h3⟩
theorem RKs.nx (e : Em K cl ρ L H) (n : Nx ρ ρ' H H') : ∀ {xs : List (LV × LV)} {vs : List (Key × V)}, RKs K cl ρ H xs vs → RKs K cl ρ' H' xs vs
  | [], _, h => h
  | x :: xs, _, h => by
    obtain ⟨k, y, r, h0, h1, h2, h3⟩ := h
    exact ⟨k, y, r, h0, h1, RV.nx e n h2, RKs.nx e n h3⟩

/-! lists of values -/
theorem RVs.len : ∀ {xs : List LV} {vs : List V}, RVs K cl ρ H xs vs → vs.length = xs.length
  | [], _, h => by rw [show _ = [] from h]; rfl
  | x :: xs, _, h => by
    obtain ⟨y, r, rfl, _, h3⟩ := h
    rw [List.length_cons, List.length_cons, RVs.len h3]
theorem RVs.get : ∀ {xs : List LV} {vs : List V} {i : Nat} {x : LV}, RVs K cl ρ H xs vs → xs[i]? = some x → ∃ y, vs[i]? = some y ∧ RV K cl ρ H x y
  | [], _, i, x, _, e => by simp at e
  | a :: xs, _, 0, x, h, e => by
    obtain ⟨y, r, rfl, h2, h3⟩ := h
    simp at e; subst e
    exact ⟨y, rfl, h2⟩
  | a :: xs, _, i + 1, x, h, e => by
    obtain ⟨y, r, rfl, h2, h3⟩ := h
    obtain ⟨z, h4, h5⟩ := RVs.get (i := i) h3 (by simpa using e)
    exact ⟨z, by simpa using h4, h5⟩
theorem RVs.app : ∀ {xs ys : List LV} {us vs : List V}, RVs K cl ρ H xs us → RVs K cl ρ H ys vs → RVs K cl ρ H (xs ++ ys) (us ++ vs)
  | [], _, _, _, h, h' => by rw [show _ = [] from h]; exact h'
  | x :: xs, _, _, _, h, h' => by
    obtain ⟨y, r, rfl, h2, h3⟩ := h
    exact ⟨y, _, rfl, h2, RVs.app h3 h'⟩
theorem RVs.one {x : LV} {v : V} (h : RV K cl ρ H x v) : RVs K cl ρ H [x] [v] := ⟨v, [], rfl, h, rfl⟩
theorem RVs.set : ∀ {xs : List LV} {vs : List V} {x : LV} {v : V} (i : Nat), RVs K cl ρ H xs vs → RV K cl ρ H x v → RVs K cl ρ H (xs.set i x) (vs.set i v)
  | [], _, _, _, _, h, _ => by rw [show _ = [] from h]; exact rfl
  | a :: xs, _, x, v, 0, h, hx => by
    obtain ⟨y, r, rfl, h2, h3⟩ := h
    exact ⟨v, r, rfl, hx, h3⟩
  | a :: xs, _, x, v, i + 1, h, hx => by
    obtain ⟨y, r, rfl, h2, h3⟩ := h
    exact ⟨y, _, rfl, h2, RVs.set i h3 hx⟩
theorem RVs.take : ∀ {xs : List LV} {vs : List V} (n : Nat), RVs K cl ρ H xs vs → RVs K cl ρ H (xs.take n) (vs.take n)
  | _, _, 0, _ => rfl
  | [], _, n + 1, h => by rw [show _ = [] from h]; rfl
  | x :: xs, _, n + 1, h => by
    obtain ⟨y, r, rfl, h2, h3⟩ := h
    exact ⟨y, _, rfl, h2, RVs.take n h3⟩
theorem RVs.drop : ∀ {xs : List LV} {vs : List V} (n : Nat), RVs K cl ρ H xs vs → RVs K cl ρ H (xs.drop n) (vs.drop n)
  | _, _, 0, h => h
  | [], _, n + 1, h => by rw [show _ = [] from h]; rfl
  | x :: xs, _, n + 1, h => by
    obtain ⟨y, r, rfl, h2, h3⟩ := h
    exact RVs.drop n h3
theorem RVs.ints : ∀ (ns : List Int), RVs K cl ρ H (ns.map .int) (ns.map .int)
  | [] => rfl
  | n :: ns => ⟨_, _, rfl, rfl, RVs.ints ns⟩

/-! the heap's steps -/
/-- a new object -/
theorem Em.new (e : Em K cl ρ L H) {p : Addr} {u : HO} {o : LO} (hp : H p = none) (hu : isMut u = true)
    (ho : RO K cl (ρ ++ [p]) (upd H p u) p o) : Em K cl (ρ ++ [p]) (L ++ [o]) (upd H p u) ∧ Nx ρ (ρ ++ [p]) H (upd H p u) := by
  have np : p ∉ ρ := e.notMemNone hp
  have nx : Nx ρ (ρ ++ [p]) H (upd H p u) := ⟨List.prefix_append _ _, fun a o' h n => by
    have ne : a ≠ p := fun z => by rw [z, hp] at h; cases h
    refine ⟨by rw [upd_ne ne]; exact h, ?_⟩
    rw [List.mem_append, not_or]
    exact ⟨n, by simpa using ne⟩⟩
  refine ⟨⟨by rw [List.length_append, List.length_append, e.len]; rfl, ?_, ?_⟩, nx⟩
  · rw [List.nodup_append]
    refine ⟨e.nd, by simp, fun a ha b hb z => ?_⟩
    simp at hb
    subst hb
    exact np (z ▸ ha)
  · intro i o' a hL hρ
    by_cases hi : i < L.length
    · rw [List.getElem?_append_left hi] at hL
      rw [List.getElem?_append_left (by rw [e.len]; exact hi)] at hρ
      have q := e.obj i o' a hL hρ
      have ne : a ≠ p := fun z => by
        obtain ⟨u', h', _⟩ := q.mut
        rw [z, hp] at h'; cases h'
      cases o' with
      | lst xs => obtain ⟨ys, h1, h2⟩ := q; exact ⟨ys, by rw [upd_ne ne]; exact h1, RVs.nx e nx h2⟩
      | dic xs => obtain ⟨ys, h1, h2⟩ := q; exact ⟨ys, by rw [upd_ne ne]; exact h1, RKs.nx e nx h2⟩
      | ins C fs => obtain ⟨c, dx, ys, h0, h1, h2⟩ := q; exact ⟨c, dx, ys, h0, by rw [upd_ne ne]; exact h1, RFs.nx e nx h2⟩
    · have hi' : i = L.length := by
        have := (List.getElem?_eq_some_iff.mp hL).1
        rw [List.length_append] at this
        simp at this
        omega
      subst hi'
      rw [List.getElem?_append_right (Nat.le_refl _)] at hL
      rw [List.getElem?_append_right (by rw [e.len]; exact Nat.le_refl _)] at hρ
      simp at hL
      simp [e.len] at hρ
      subst hL
      subst hρ
      exact ho
/-- an object written -/
theorem Em.put (e : Em K cl ρ L H) {i : Nat} {a : Addr} {u : HO} {o : LO} (ha : ρ[i]? = some a) (hu : isMut u = true)
    (ho : Nx ρ ρ H (upd H a u) → RO K cl ρ (upd H a u) a o) : Em K cl ρ (L.set i o) (upd H a u) ∧ Nx ρ ρ H (upd H a u) := by
  have ma : a ∈ ρ := List.mem_of_getElem? ha
  have nx : Nx ρ ρ H (upd H a u) := ⟨List.prefix_refl _, fun b o' h n => by
    have ne : b ≠ a := fun z => n (z ▸ ma)
    exact ⟨by rw [upd_ne ne]; exact h, n⟩⟩
  refine ⟨⟨by rw [List.length_set]; exact e.len, e.nd, ?_⟩, nx⟩
  intro j o' b hL hρ
  by_cases hj : i = j
  · subst hj
    have hi : i < L.length := by
      have := (List.getElem?_eq_some_iff.mp hL).1
      simpa using this
    rw [List.getElem?_set_self hi] at hL
    cases hL
    rw [ha] at hρ
    cases hρ
    exact ho nx
  · rw [List.getElem?_set_ne hj] at hL
    have q := e.obj j o' b hL hρ
    have ne : b ≠ a := fun z => by
      subst z
      have h1 := (List.getElem?_eq_some_iff.mp ha)
      have h2 := (List.getElem?_eq_some_iff.mp hρ)
      obtain ⟨l1, e1⟩ := h1
      obtain ⟨l2, e2⟩ := h2
      exact hj ((List.getElem_inj e.nd).mp (e1.trans e2.symm))
    cases o' with
    | lst xs => obtain ⟨ys, h1, h2⟩ := q; exact ⟨ys, by rw [upd_ne ne]; exact h1, RVs.nx e nx h2⟩
    | dic xs => obtain ⟨ys, h1, h2⟩ := q; exact ⟨ys, by rw [upd_ne ne]; exact h1, RKs.nx e nx h2⟩
    | ins C fs => obtain ⟨c, dx, ys, h0, h1, h2⟩ := q; exact ⟨c, dx, ys, h0, by rw [upd_ne ne]; exact h1, RFs.nx e nx h2⟩
/-- something that is not the logical heap's is laid -/
theorem Em.laid (e : Em K cl ρ L H) {p : Addr} {u : HO} (hp : H p = none) : Em K cl ρ L (upd H p u) ∧ Nx ρ ρ H (upd H p u) := by
  have np : p ∉ ρ := e.notMemNone hp
  have nx : Nx ρ ρ H (upd H p u) := ⟨List.prefix_refl _, fun b o' h n => by
    have ne : b ≠ p := fun z => by rw [z, hp] at h; cases h
    exact ⟨by rw [upd_ne ne]; exact h, n⟩⟩
  refine ⟨⟨e.len, e.nd, fun j o' b hL hρ => ?_⟩, nx⟩
  have q := e.obj j o' b hL hρ
  have ne : b ≠ p := fun z => np (z ▸ List.mem_of_getElem? hρ)
  cases o' with
  | lst xs => obtain ⟨ys, h1, h2⟩ := q; exact ⟨ys, by rw [upd_ne ne]; exact h1, RVs.nx e nx h2⟩
  | dic xs => obtain ⟨ys, h1, h2⟩ := q; exact ⟨ys, by rw [upd_ne ne]; exact h1, RKs.nx e nx h2⟩
  | ins C fs => obtain ⟨c, dx, ys, h0, h1, h2⟩ := q; exact ⟨c, dx, ys, h0, by rw [upd_ne ne]; exact h1, RFs.nx e nx h2⟩
end
end G
set_option Elab.async false
set_option linter.all false
set_option maxRecDepth 100000
/-! G2: the syntax without places, and what it means: a function. -/
namespace G
open PySem L2

inductive BOp where | add | sub | mul | fdv | mod | band | bor
  deriving DecidableEq
inductive COp where | eq | ne | lt | le | gt | ge | isn | nisn | inn | nin
  deriving DecidableEq

mutual
inductive Ex where
  | var (i : Nat)
  | con (v : LV)
  | glo (x : String)
  | bin (op : BOp) (a b : Ex)
  | neg (a : Ex)
  | cmp (op : COp) (a b : Ex)
  | chn (o p : COp) (a b c : Ex)
  | ite (c a b : Ex)
  | and (a b : Ex) | or (a b : Ex) | not (a : Ex)
  | tup (xs : List Ex) | lst (xs : List Ex) | dic (ks vs : List Ex)
  | call (f : String) (xs : List Ex) (ds : List LV)
  | calk (f : String) (xs : List Ex) (ks : List String) (zs : List Ex) (ds : List LV)
  | new (C : String) (xs : List Ex) (ds : List LV)
  | blt (f : String) (xs : List Ex)
  | isi (a : Ex) (ts : List String)
  | fld (e : Ex) (f : String)
  | mth (e : Ex) (m : String) (xs : List Ex) (ds : List LV)
  | idx (a i : Ex)
  | slc (a : Ex) (lo hi : Option Ex)
  | cpr (elt : Ex) (tg : Tg) (src : It) (cond : Option Ex) (own : List Nat)
  | cpr2 (elt : Ex) (tg : Tg) (src : It) (cond : Option Ex) (tg1 : Tg) (src1 : It) (cond1 : Option Ex) (own own1 : List Nat)
  | scl (c m : String) (xs : List Ex) (ds : List LV)
  | frz (e : Ex)
inductive Tg where
  | nm (i : Nat) | tup (ts : List Tg) | sub (o i : Ex) | fld (o : Ex) (f : String)
inductive It where
  | of (e : Ex) | rng (xs : List Ex) | enm (e : Ex) | zip (a b : Ex) | rev (e : Ex)
end
mutual
inductive Pt where
  | val (v : LV) | any | nm (i : Nat) | tup (ps : List Pt) | or (ps : List Pt)
end
mutual
inductive Sm where
  | asg (t : Tg) (e : Ex)
  | aug (i : Nat) (op : BOp) (e : Ex)
  | augf (o : Ex) (f : String) (op : BOp) (e : Ex)
  | augs (o i : Ex) (op : BOp) (e : Ex)
  | exp (e : Ex)
  | ite (c : Ex) (a b : List Sm)
  | for (t : Tg) (it : It) (b : List Sm)
  | whl (c : Ex) (b : List Sm)
  | ret (e : Ex) | retN | brk | cnt | pass
  | rse
  | mch (e : Ex) (cs : List Cs)
  | del (o i : Ex)
inductive Cs where
  | mk (p : Pt) (b : List Sm)
end

/-- a def: how many parameters, how many slots, its body -/
structure Fn where
  arity : Nat
  slots : Nat
  body : List Sm

/-! ### results -/
inductive R (α : Type) where
  | ok (a : α) (L : LH)
  | stuck
def R.bind {α β : Type} : R α → (α → LH → R β) → R β
  | .ok a L, f => f a L
  | .stuck, _ => .stuck
@[simp] theorem R.bind_ok {α β : Type} (a : α) (L : LH) (f : α → LH → R β) : (R.ok a L).bind f = f a L := rfl
@[simp] theorem R.bind_stuck {α β : Type} (f : α → LH → R β) : (R.stuck : R α).bind f = .stuck := rfl
def R.of {α : Type} (o : Option α) (L : LH) : R α := match o with | some a => .ok a L | none => .stuck
@[simp] theorem R.of_some {α : Type} (a : α) (L : LH) : R.of (some a) L = .ok a L := rfl
@[simp] theorem R.of_none {α : Type} (L : LH) : R.of (none : Option α) L = .stuck := rfl
abbrev Sl := List (Option LV)
inductive SR where
  | nx (s : Sl) (L : LH) | rt (v : LV) (L : LH) | bk (s : Sl) (L : LH) | ct (s : Sl) (L : LH) | stuck
def SR.bind : SR → (Sl → LH → SR) → SR
  | .nx s L, f => f s L
  | .rt v L, _ => .rt v L
  | .bk s L, _ => .bk s L
  | .ct s L, _ => .ct s L
  | .stuck, _ => .stuck
@[simp] theorem SR.bind_nx (s : Sl) (L : LH) (f) : (SR.nx s L).bind f = f s L := rfl
@[simp] theorem SR.bind_rt (v : LV) (L : LH) (f) : (SR.rt v L).bind f = .rt v L := rfl
@[simp] theorem SR.bind_bk (s : Sl) (L : LH) (f) : (SR.bk s L).bind f = .bk s L := rfl
@[simp] theorem SR.bind_ct (s : Sl) (L : LH) (f) : (SR.ct s L).bind f = .ct s L := rfl
@[simp] theorem SR.bind_stuck (f) : SR.stuck.bind f = .stuck := rfl
def R.toS {α : Type} : R α → (α → LH → SR) → SR
  | .ok a L, f => f a L
  | .stuck, _ => .stuck
@[simp] theorem R.toS_ok {α : Type} (a : α) (L : LH) (f : α → LH → SR) : (R.ok a L).toS f = f a L := rfl
@[simp] theorem R.toS_stuck {α : Type} (f : α → LH → SR) : (R.stuck : R α).toS f = .stuck := rfl

/-- what a call gives -/
abbrev Orc := String → List LV → LH → R LV

/-! ### data -/
inductive D where
  | non | bl (b : Bool) | int (i : Int) | str (x : String) | tup (xs : List D) | lst (xs : List D)
  deriving Inhabited
mutual
def toD : Nat → LH → LV → Option D
  | _, _, .non => some .non
  | _, _, .bl b => some (.bl b)
  | _, _, .int i => some (.int i)
  | _, _, .str x => some (.str x)
  | 0, _, _ => none
  | n + 1, L, .tup xs => (toDs n L xs).map .tup
  | n + 1, L, .fl xs => (toDs n L xs).map .lst
  | _ + 1, _, .ob _ _ _ => none
  | n + 1, L, .ref i => match L[i]? with
    | some (.lst xs) => (toDs n L xs).map .lst
    | _ => none
termination_by n _ v => (n, 0, 0)
def toDs : Nat → LH → List LV → Option (List D)
  | _, _, [] => some []
  | n, L, x :: r => (toD n L x).bind fun d => (toDs n L r).map (d :: ·)
termination_by n _ vs => (n, 1, vs.length)
end
mutual
def eqD : D → D → Bool
  | .non, .non => true
  | .bl a, .bl b => a == b
  | .bl a, .int j => (if a then 1 else 0) == j
  | .int i, .bl b => i == (if b then 1 else 0)
  | .int i, .int j => i == j
  | .str x, .str y => x == y
  | .lst xs, .lst ys => eqDs xs ys
  | .tup xs, .tup ys => eqDs xs ys
  | _, _ => false
def eqDs : List D → List D → Bool
  | [], [] => true
  | x :: xs, y :: ys => eqD x y && eqDs xs ys
  | _, _ => false
end
mutual
/-- of one kind, place by place -/
def alikeD : D → D → Bool
  | .non, .non => true
  | .bl _, .bl _ => true
  | .int _, .int _ => true
  | .str _, .str _ => true
  | .lst xs, .lst ys => alikeDs xs ys
  | .tup xs, .tup ys => alikeDs xs ys
  | _, _ => false
def alikeDs : List D → List D → Bool
  | x :: xs, y :: ys => alikeD x y && alikeDs xs ys
  | [], _ => true
  | _ :: _, [] => true
end
def strLt (x y : String) : Bool := decide ((Str.ofString x).cps.toList < (Str.ofString y).cps.toList)
mutual
/-- d < e, of alike data -/
def ltD : D → D → Bool
  | .bl a, .bl b => decide ((if a then 1 else 0 : Int) < (if b then 1 else 0))
  | .int i, .int j => decide (i < j)
  | .str x, .str y => strLt x y
  | .tup xs, .tup ys => ltDs xs ys
  | .lst xs, .lst ys => ltDs xs ys
  | _, _ => false
def ltDs : List D → List D → Bool
  | [], [] => false
  | [], _ :: _ => true
  | _ :: _, [] => false
  | x :: xs, y :: ys => if eqD x y then ltDs xs ys else ltD x y
end
def nonD : D → Bool | .non => true | _ => false
def pairD : D → Bool | .tup (_ :: _) => true | _ => false
def tupD : D → Bool | .tup _ => true | _ => false
/-- these can be sorted -/
def sortOk (ds : List D) : Bool := (ds.all fun d => ds.all fun e => alikeD d e) && (ds.all pairD || ds.all fun d => !nonD d && !tupD d)
/-- flat values compared, as «in» does -/
def flatL : LV → Bool
  | .non => true | .bl _ => true | .int _ => true | .str _ => true | _ => false
def eqL : LV → LV → Bool
  | .non, .non => true
  | .bl a, .bl b => a == b
  | .bl a, .int j => (if a then 1 else 0) == j
  | .int i, .bl b => i == (if b then 1 else 0)
  | .int i, .int j => i == j
  | .str x, .str y => x == y
  | _, _ => false

/-- the items of a list or tuple -/
def seqAt (L : LH) : LV → Option (List LV)
  | .tup xs => some xs
  | .fl xs => some xs
  | .ref i => match L[i]? with
    | some (.lst xs) => some xs
    | _ => none
  | _ => none
def lstAt (L : LH) : LV → Option (List LV)
  | .fl xs => some xs
  | .ref i => match L[i]? with
    | some (.lst xs) => some xs
    | _ => none
  | _ => none

def big : Nat := 1000000
def ixL (n : Nat) (i : Int) : Option Nat := if 0 ≤ i then (if i < n then some i.toNat else none) else if -(n : Int) ≤ i then some (i + n).toNat else none
/-- a slice -/
def cutL {α : Type} (xs : List α) (lo hi : Option Int) : List α := (xs.drop (HT.sIx xs.length 0 lo)).take (HT.sIx xs.length xs.length hi - HT.sIx xs.length 0 lo)

def addV (x y : LV) (L : LH) : R LV := match x, y with
  | .int i, .int j => .ok (.int (i + j)) L
  | .str a, .str b => if a.length + b.length ≤ big then .ok (.str (a ++ b)) L else .stuck
  | .tup xs, .tup ys => if xs.length + ys.length ≤ big then .ok (.tup (xs ++ ys)) L else .stuck
  | x, y => match lstAt L x, lstAt L y with
    | some xs, some ys => if xs.length + ys.length ≤ big then .ok (.ref L.length) (L ++ [.lst (xs ++ ys)]) else .stuck
    | _, _ => .stuck
def mulV (x y : LV) (L : LH) : R LV := match x, y with
  | .int i, .int j => if (-(2 ^ 64) < i ∧ i < 2 ^ 64) ∨ (-(2 ^ 64) < j ∧ j < 2 ^ 64) then .ok (.int (i * j)) L else .stuck
  | x, .int k => match lstAt L x with
    | some xs => if 0 ≤ k ∧ k < 2 ^ 63 ∧ xs.length * k.toNat ≤ big then .ok (.ref L.length) (L ++ [.lst (List.replicate k.toNat xs).flatten]) else .stuck
    | none => .stuck
  | _, _ => .stuck
def binV (op : BOp) (x y : LV) (L : LH) : R LV := match op with
  | .add => addV x y L
  | .sub => match x, y with
    | .int i, .int j => .ok (.int (i - j)) L
    | _, _ => .stuck
  | .mul => mulV x y L
  | .fdv => match x, y with
    | .int i, .int j => if 0 < j ∧ j < 1073741824 then .ok (.int (i / j)) L else .stuck
    | _, _ => .stuck
  | .mod => match x, y with
    | .int i, .int j => if 0 < j then .ok (.int (i % j)) L else .stuck
    | _, _ => .stuck
  | .band => .stuck
  | .bor => .stuck

/-- x op= y, of ints and texts -/
def augV (op : BOp) (x y : LV) (L : LH) : R LV := match op, x, y with
  | .add, .int i, .int j => .ok (.int (i + j)) L
  | .sub, .int i, .int j => .ok (.int (i - j)) L
  | .add, .str a, .str b => if a.length + b.length ≤ big then .ok (.str (a ++ b)) L else .stuck
  | _, _, _ => .stuck

/-- an order by data -/
def ordD (op : COp) (x y : LV) (L : LH) : Option Bool := match toD 60 L x, toD 60 L y with
  | some d, some e => if alikeD d e = true ∧ nonD d = false then some (match op with | .lt => ltD d e | .le => !ltD e d | .gt => ltD e d | _ => !ltD d e) else none
  | _, _ => none
def ordV (op : COp) (x y : LV) (L : LH) : Option Bool := match x, y with
  | .int i, .int j => some (match op with | .lt => decide (i < j) | .le => decide (i ≤ j) | .gt => decide (j < i) | _ => decide (j ≤ i))
  | x, y => ordD op x y L
/-- x in y, by data -/
def inD (x y : LV) (L : LH) : Option Bool := match toD 60 L x, toD 60 L y with
  | some d, some (.lst es) => some (es.any fun e => eqD e d)
  | some d, some (.tup es) => some (es.any fun e => eqD e d)
  | _, _ => none
def cmpV (op : COp) (x y : LV) (L : LH) : Option Bool := match op with
  | .eq => match toD 60 L x, toD 60 L y with
    | some d, some e => some (eqD d e)
    | _, _ => none
  | .ne => match toD 60 L x, toD 60 L y with
    | some d, some e => some (!eqD d e)
    | _, _ => none
  | .lt => ordV .lt x y L
  | .le => ordV .le x y L
  | .gt => ordV .gt x y L
  | .ge => ordV .ge x y L
  | .isn => match y with | .non => some (decide (x = .non)) | _ => none
  | .nisn => match y with | .non => some (!decide (x = .non)) | _ => none
  | .inn => match seqAt L y with
    | some ys => if flatL x = true ∧ ys.all flatL = true then some (ys.any fun y => eqL y x) else inD x y L
    | none => none
  | .nin => match seqAt L y with
    | some ys => if flatL x = true ∧ ys.all flatL = true then some (!(ys.any fun y => eqL y x)) else (inD x y L).map (!·)
    | none => none

def getF (f : String) : List (String × LV) → Option LV
  | [] => none
  | (g, v) :: r => if f = g then some v else getF f r
def putFL (f : String) (v : LV) : List (String × LV) → List (String × LV)
  | [] => [(f, v)]
  | (g, u) :: r => if f = g then (f, v) :: r else (g, u) :: putFL f v r

def isKind (L : LH) (v : LV) (t : String) : Option Bool := match v with
  | .non => some (t = "NoneType")
  | .bl _ => some (t = "bool" ∨ t = "int")
  | .int _ => some (t = "int")
  | .str _ => some (t = "str")
  | .tup _ => some (t = "tuple")
  | .fl _ => some (t = "list")
  | .ob _ _ _ => none
  | .ref i => match L[i]? with
    | some (.lst _) => some (t = "list")
    | some (.dic _) => some (t = "dict")
    | _ => none
def isKinds (L : LH) (v : LV) : List String → Option Bool
  | [] => some false
  | t :: ts => (isKind L v t).bind fun b => (isKinds L v ts).map (b || ·)

def lenV (vs : List LV) (L : LH) : R LV := match vs with
  | [.str x] => if x.length ≤ big then .ok (.int x.length) L else .stuck
  | [v] => match seqAt L v with
    | some xs => .ok (.int xs.length) L
    | none => .stuck
  | _ => .stuck
def intV (vs : List LV) (L : LH) : R LV := match vs with
  | [.int i] => .ok (.int i) L
  | [.bl b] => .ok (.int (if b then 1 else 0)) L
  | _ => .stuck
def absV' (vs : List LV) (L : LH) : R LV := match vs with
  | [.int i] => .ok (.int (if i < 0 then -i else i)) L
  | _ => .stuck
def lstV (vs : List LV) (L : LH) : R LV := match vs with
  | [v] => match seqAt L v with
    | some xs => .ok (.ref L.length) (L ++ [.lst xs])
    | none => .stuck
  | _ => .stuck
def tupV (vs : List LV) (L : LH) : R LV := match vs with
  | [v] => match seqAt L v with
    | some xs => .ok (.tup xs) L
    | none => .stuck
  | _ => .stuck
def boolsL : List LV → Option (List Bool)
  | [] => some []
  | .bl b :: r => (boolsL r).map (b :: ·)
  | _ => none
def intsL : List LV → Option (List Int)
  | [] => some []
  | .int b :: r => (intsL r).map (b :: ·)
  | _ => none
def anyV (vs : List LV) (L : LH) : R LV := match vs with
  | [v] => R.of ((lstAt L v).bind fun xs => (boolsL xs).map fun bs => .bl (bs.any id)) L
  | _ => .stuck
def allV (vs : List LV) (L : LH) : R LV := match vs with
  | [v] => R.of ((lstAt L v).bind fun xs => (boolsL xs).map fun bs => .bl (bs.all id)) L
  | _ => .stuck
def sumV (vs : List LV) (L : LH) : R LV := match vs with
  | [v] => R.of ((lstAt L v).bind fun xs => (intsL xs).map fun bs => .int bs.sum) L
  | _ => .stuck
/-- the items in their order -/
def sortF (xs : List LV) (ds : List D) : List LV := ((xs.zip ds).mergeSort fun p q => !ltD q.2 p.2).map (·.1)
def sortedV (vs : List LV) (L : LH) : R LV := match vs with
  | [v] => match lstAt L v with
    | some xs => match toDs 59 L xs with
      | some ds => if sortOk ds = true ∧ xs.length ≤ big then .ok (.ref L.length) (L ++ [.lst (sortF xs ds)]) else .stuck
      | none => .stuck
    | none => .stuck
  | _ => .stuck
def minL (vs : List LV) (L : LH) : R LV := match vs with
  | [v] => R.of (((lstAt L v).bind intsL).bind fun ns => ns.min?.map .int) L
  | _ => .stuck
def maxL (vs : List LV) (L : LH) : R LV := match vs with
  | [v] => R.of (((lstAt L v).bind intsL).bind fun ns => ns.max?.map .int) L
  | _ => .stuck
def minV (vs : List LV) (L : LH) : R LV := match vs with
  | [.int i, .int j] => .ok (.int (if j < i then j else i)) L
  | vs => minL vs L
def maxV (vs : List LV) (L : LH) : R LV := match vs with
  | [.int i, .int j] => .ok (.int (if j > i then j else i)) L
  | vs => maxL vs L
/-- a text cut at a separator (the cut is looked at against the model's own) -/
def splC (sep : List Char) : Nat → List Char → List Char → List String
  | 0, acc, _ => [String.ofList acc.reverse]
  | n + 1, acc, [] => [String.ofList acc.reverse]
  | n + 1, acc, c :: r => if sep.isPrefixOf (c :: r) then String.ofList acc.reverse :: splC sep n [] ((c :: r).drop sep.length) else splC sep n (c :: acc) r
def splL (x sep : String) : List String := splC sep.toList (x.length + 1) [] x.toList
def splitV (z : String) (vs : List LV) (L : LH) : R LV := match vs with
  | [.str sep] => if ((Str.ofString sep).length == 0) = false ∧ (Str.ofString z).length + 2 ≤ 1000 ∧ (splL z sep).map Str.ofString = Txt.split (Str.ofString z) (Str.ofString sep) then .ok (.ref L.length) (L ++ [.lst ((splL z sep).map .str)]) else .stuck
  | _ => .stuck
def bltV (f : String) (vs : List LV) (L : LH) : R LV := match f with
  | "len" => lenV vs L
  | "int" => intV vs L
  | "abs" => absV' vs L
  | "list" => lstV vs L
  | "tuple" => tupV vs L
  | "min" => minV vs L
  | "max" => maxV vs L
  | "any" => anyV vs L
  | "all" => allV vs L
  | "sum" => sumV vs L
  | "sorted" => sortedV vs L
  | _ => .stuck

/-- methods of lists, texts, dicts -/
def appendV (x : LV) (vs : List LV) (L : LH) : R LV := match x, vs with
  | .ref i, [y] => match L[i]? with
    | some (.lst xs) => if xs.length < big then .ok .non (L.set i (.lst (xs ++ [y]))) else .stuck
    | _ => .stuck
  | _, _ => .stuck
def popV (x : LV) (vs : List LV) (L : LH) : R LV := match x, vs with
  | .ref i, [] => match L[i]? with
    | some (.lst xs) => match xs.getLast? with
      | some y => .ok y (L.set i (.lst xs.dropLast))
      | none => .stuck
    | _ => .stuck
  | _, _ => .stuck
/-- methods of lists -/
def lmV (m : String) (x : LV) (vs : List LV) (L : LH) : R LV := match m with
  | "append" => appendV x vs L
  | "pop" => popV x vs L
  | _ => .stuck

/-- methods of texts -/
def smV (m : String) (z : String) (vs : List LV) (L : LH) : R LV := match m with
  | "split" => splitV z vs L
  | _ => .stuck

structure Tbl where
  glob : String → Option LV

def sget (s : Sl) (i : Nat) : Option LV := match s[i]? with
  | some (some v) => some v
  | _ => none
def wipeL (s : Sl) : List Nat → Sl
  | [] => s
  | v :: vs => (wipeL s vs).set v none

/-- .. as a test -/
def asB (v : LV) (L : LH) : R Bool := match v with | .bl b => .ok b L | _ => .stuck
/-! ### loops, by what a turn does -/
/-- the list that is walked stands as it stood -/
def chkOk (c : Option (Nat × List LV)) (L : LH) : Bool := match c with
  | none => true
  | some (i, xs) => decide (L[i]? = some (.lst xs))
def forL (f : LV → Sl → LH → SR) (c : Option (Nat × List LV)) : List LV → Sl → LH → SR
  | [], s, L => if chkOk c L then .nx s L else .stuck
  | x :: r, s, L => if chkOk c L then (match f x s L with
    | .nx s' L' => forL f c r s' L'
    | .ct s' L' => forL f c r s' L'
    | .bk s' L' => .nx s' L'
    | .rt v L' => .rt v L'
    | .stuck => .stuck) else .stuck
def whlL (c : Sl → LH → R LV) (b : Sl → LH → SR) : Nat → Sl → LH → SR
  | 0, _, _ => .stuck
  | n + 1, s, L => match c s L with
    | .ok (.bl true) L1 => (match b s L1 with
      | .nx s' L' => whlL c b n s' L'
      | .ct s' L' => whlL c b n s' L'
      | .bk s' L' => .nx s' L'
      | .rt v L' => .rt v L'
      | .stuck => .stuck)
    | .ok (.bl false) L1 => .nx s L1
    | _ => .stuck
def cprL (f : LV → LH → R (Option LV)) (c : Option (Nat × List LV)) (d : Nat) : List LV → LH → R Unit
  | [], L => if chkOk c L then .ok () L else .stuck
  | x :: r, L => if chkOk c L then (match f x L with
    | .ok none L1 => cprL f c d r L1
    | .ok (some y) L1 => (match L1[d]? with
      | some (.lst acc) => if acc.length < big then cprL f c d r (L1.set d (.lst (acc ++ [y]))) else .stuck
      | _ => .stuck)
    | .stuck => .stuck) else .stuck

def cpr2L (f : LV → LH → R Unit) (c : Option (Nat × List LV)) : List LV → LH → R Unit
  | [], L => if chkOk c L then .ok () L else .stuck
  | x :: r, L => if chkOk c L then (f x L).bind fun _ L1 => cpr2L f c r L1 else .stuck

mutual
/-- all places are under n -/
def clV (n : Nat) : LV → Bool
  | .ref i => decide (i < n)
  | .tup xs => clVs n xs
  | .fl xs => clVs n xs
  | .ob _ _ xs => clVs n xs
  | _ => true
def clVs (n : Nat) : List LV → Bool
  | [] => true
  | x :: xs => clV n x && clVs n xs
end
def clFs (n : Nat) : List (String × LV) → Bool
  | [] => true
  | x :: xs => clV n x.2 && clFs n xs
def clKs (n : Nat) : List (LV × LV) → Bool
  | [] => true
  | x :: xs => clV n x.2 && clKs n xs
def clO (n : Nat) : LO → Bool
  | .lst xs => clVs n xs
  | .dic kvs => clKs n kvs
  | .ins _ fs => clFs n fs
/-- what was made last is no longer the logical heap's -/
def fzV (L : LH) (v : LV) (L1 : LH) : R LV := match v with
  | .ref i => if i = L.length ∧ L1.take i = L ∧ L1.length = i + 1 then (match L1[i]? with
      | some (.lst xs) => if clVs i xs = true then .ok (.fl xs) L else .stuck
      | some (.ins K fs) => if clFs i fs = true then .ok (.ob K (fs.map (·.1)) (fs.map (·.2))) L else .stuck
      | _ => .stuck) else .stuck
  | v => .ok v L1
/-- the methods of the operators -/
def dunB : BOp → Option String
  | .bor => some "__or__"
  | .sub => some "__sub__"
  | _ => none
def getO (f : String) : List String → List LV → Option LV
  | g :: ns, v :: vs => if f = g then some v else getO f ns vs
  | _, _ => none
def binO (C : Orc) (op : BOp) (x y : LV) (L : LH) : R LV := match x, y with
  | .ob K n a, .ob K' n' a' => if K = K' then (match dunB op with
    | some m => (C (K ++ "." ++ m) [.ob K n a, .ob K' n' a'] L).bind fun v L => (match v with | .ob _ _ _ => .ok v L | _ => .stuck)
    | none => .stuck) else .stuck
  | x, y => binV op x y L
def notV (b : Bool) (v : LV) (L : LH) : R LV := match v with | .bl r => .ok (.bl (if b = true then r else !r)) L | _ => .stuck
def cmpO (C : Orc) (op : COp) (x y : LV) (L : LH) : R LV := match y with
  | .ob K n a => (match op with
    | .inn => (C (K ++ "." ++ "__contains__") [.ob K n a, x] L).bind (notV true)
    | .nin => (C (K ++ "." ++ "__contains__") [.ob K n a, x] L).bind (notV false)
    | _ => .stuck)
  | y => .of ((cmpV op x y L).map .bl) L

section
variable (T : Tbl) (C : Orc)
mutual
def evE : Ex → Sl → LH → R LV
  | .var i, s, L => .of (sget s i) L
  | .con v, _, L => .ok v L
  | .glo x, _, L => .of (T.glob x) L
  | .bin op a b, s, L => (evE a s L).bind fun x L1 => (evE b s L1).bind fun y L2 => binO C op x y L2
  | .neg a, s, L => (evE a s L).bind fun x L1 => match x with | .int i => .ok (.int (-i)) L1 | _ => .stuck
  | .cmp op a b, s, L => (evE a s L).bind fun x L1 => (evE b s L1).bind fun y L2 => cmpO C op x y L2
  | .chn o p a b c, s, L => (evE a s L).bind fun x L1 => (evE b s L1).bind fun y L2 => (R.of (cmpV o x y L2) L2).bind fun k L2 =>
      if k = true then (evE c s L2).bind fun z L3 => .of ((cmpV p y z L3).map .bl) L3 else .ok (.bl false) L2
  | .ite c a b, s, L => (evE c s L).bind fun k L1 => match k with
    | .bl true => evE a s L1
    | .bl false => evE b s L1
    | _ => .stuck
  | .and a b, s, L => (evE a s L).bind fun k L1 => match k with
    | .bl true => (evE b s L1).bind fun k L2 => match k with | .bl k => .ok (.bl k) L2 | _ => .stuck
    | .bl false => .ok (.bl false) L1
    | _ => .stuck
  | .or a b, s, L => (evE a s L).bind fun k L1 => match k with
    | .bl true => .ok (.bl true) L1
    | .bl false => (evE b s L1).bind fun k L2 => match k with | .bl k => .ok (.bl k) L2 | _ => .stuck
    | _ => .stuck
  | .not a, s, L => (evE a s L).bind fun k L1 => match k with
    | .bl k => .ok (.bl (!k)) L1
    | _ => .stuck
  | .tup xs, s, L => (evEs xs s L).bind fun vs L1 => if vs.length ≤ big then .ok (.tup vs) L1 else .stuck
  | .lst xs, s, L => (evEs xs s L).bind fun vs L1 => if vs.length ≤ big then .ok (.ref L1.length) (L1 ++ [.lst vs]) else .stuck
  | .dic _ _, _, _ => .stuck
  | .call f xs ds, s, L => (evEs xs s L).bind fun vs L1 => C f (vs ++ ds) L1
  | .calk f xs ks zs ds, s, L => (evEs xs s L).bind fun vs L1 => (evEs zs s L1).bind fun ws L2 => C f (vs ++ ws ++ ds) L2
  | .new K xs ds, s, L => (evEs xs s L).bind fun vs L1 => (C (K ++ ".__init__") (.ref L1.length :: (vs ++ ds)) (L1 ++ [.ins K []])).bind fun r L2 =>
      if r = .non then .ok (.ref L1.length) L2 else .stuck
  | .blt f xs, s, L => (evEs xs s L).bind fun vs L1 => bltV f vs L1
  | .isi a ts, s, L => (evE a s L).bind fun v L1 => .of ((isKinds L1 v ts).map .bl) L1
  | .fld e f, s, L => (evE e s L).bind fun v L1 => match v with
    | .ref i => (match L1[i]? with
      | some (.ins _ fs) => .of (getF f fs) L1
      | _ => .stuck)
    | .ob _ ns xs => .of (getO f ns xs) L1
    | _ => .stuck
  | .mth e m xs ds, s, L => (evE e s L).bind fun x L1 => match x with
    | .ref i => (match L1[i]? with
      | some (.ins K fs) => if getF m fs = none then (evEs xs s L1).bind fun vs L2 => C (K ++ "." ++ m) (.ref i :: (vs ++ ds)) L2 else .stuck
      | some (.lst _) => (evEs xs s L1).bind fun vs L2 => lmV m (.ref i) vs L2
      | _ => .stuck)
    | .str z => (evEs xs s L1).bind fun vs L2 => smV m z vs L2
    | .ob K ns ys => if getO m ns ys = none then (evEs xs s L1).bind fun vs L2 => C (K ++ "." ++ m) (.ob K ns ys :: (vs ++ ds)) L2 else .stuck
    | _ => .stuck
  | .idx a i, s, L => (evE a s L).bind fun x L1 => (evE i s L1).bind fun k L2 => match k with
    | .int i => .of ((seqAt L2 x).bind fun xs => (ixL xs.length i).bind fun j => xs[j]?) L2
    | _ => .stuck
  | .slc a lo hi, s, L => (evE a s L).bind fun x L1 => (evO lo s L1).bind fun l L2 => (evO hi s L2).bind fun h L3 => match x with
    | .tup xs => .ok (.tup (cutL xs l h)) L3
    | x => match lstAt L3 x with
      | some xs => .ok (.ref L3.length) (L3 ++ [.lst (cutL xs l h)])
      | none => .stuck
  | .cpr elt tg src cond own, s, L => (evI src s L).bind fun p L1 =>
      (cprL (fun x L => (evG tg x (wipeL s own) L).bind fun s' L' => (evC cond s' L').bind fun b L2 => if b = true then (evE elt s' L2).bind fun y L3 => .ok (some y) L3 else .ok none L2)
        p.2 L1.length p.1 (L1 ++ [.lst []])).bind fun _ L2 => .ok (.ref L1.length) L2
  | .cpr2 elt tg src cond tg1 src1 cond1 own own1, s, L => (evI src s L).bind fun p L1 =>
      (cpr2L (fun x L => (evG tg x (wipeL s own) L).bind fun s' L' => (evC cond s' L').bind fun b L2 => if b = true then (evI src1 s' L2).bind fun p1 L3 =>
          cprL (fun x L => (evG tg1 x (wipeL s' own1) L).bind fun s2 L' => (evC cond1 s2 L').bind fun b L2 => if b = true then (evE elt s2 L2).bind fun y L3 => .ok (some y) L3 else .ok none L2) p1.2 L1.length p1.1 L3 else .ok () L2)
        p.2 p.1 (L1 ++ [.lst []])).bind fun _ L2 => .ok (.ref L1.length) L2
  | .scl c m xs ds, s, L => (evEs xs s L).bind fun vs L1 => C (c ++ "." ++ m) (vs ++ ds) L1
  | .frz e, s, L => (evE e s L).bind fun v L1 => fzV L v L1
def evEs : List Ex → Sl → LH → R (List LV)
  | [], _, L => .ok [] L
  | e :: r, s, L => (evE e s L).bind fun v L1 => (evEs r s L1).bind fun vs L2 => .ok (v :: vs) L2
def evO : Option Ex → Sl → LH → R (Option Int)
  | none, _, L => .ok none L
  | some e, s, L => (evE e s L).bind fun v L1 => match v with | .int i => .ok (some i) L1 | _ => .stuck
def evC : Option Ex → Sl → LH → R Bool
  | none, _, L => .ok true L
  | some e, s, L => (evE e s L).bind asB
/-- the items that are walked, and the list that must stand as it stood -/
def evI : It → Sl → LH → R (List LV × Option (Nat × List LV))
  | .of e, s, L => (evE e s L).bind fun v L1 => match v with
    | .tup xs => .ok (xs, none) L1
    | .fl xs => .ok (xs, none) L1
    | .ref i => (match L1[i]? with
      | some (.lst xs) => .ok (xs, some (i, xs)) L1
      | _ => .stuck)
    | _ => .stuck
  | .rng xs, s, L => (evEs xs s L).bind fun vs L1 => match vs with
    | [.int j] => if -(2 ^ 62) ≤ j ∧ j < 2 ^ 62 then .ok ((List.range j.toNat).map fun (k : Nat) => .int (0 + k), none) L1 else .stuck
    | [.int i, .int j] => if -(2 ^ 62) ≤ i ∧ i < 2 ^ 62 ∧ -(2 ^ 62) ≤ j ∧ j < 2 ^ 62 then .ok ((List.range (j - i).toNat).map fun (k : Nat) => .int (i + k), none) L1 else .stuck
    | _ => .stuck
  | .enm e, s, L => (evE e s L).bind fun v L1 => match v with
    | .fl xs => .ok (xs.mapIdx fun i x => .tup [.int i, x], none) L1
    | .ref i => (match L1[i]? with
      | some (.lst xs) => .ok (xs.mapIdx fun i x => .tup [.int i, x], some (i, xs)) L1
      | _ => .stuck)
    | _ => .stuck
  | .zip _ _, _, _ => .stuck
  | .rev _, _, _ => .stuck
/-- a store -/
def evG : Tg → LV → Sl → LH → R Sl
  | .nm i, v, s, L => if i < s.length then .ok (s.set i (some v)) L else .stuck
  | .tup ts, v, s, L => (match v with
    | .tup vs => evGs ts vs s L
    | _ => .stuck)
  | .sub o i, v, s, L => (evE o s L).bind fun x L1 => (evE i s L1).bind fun k L2 => match x, k with
    | .ref a, .int k => (match L2[a]? with
      | some (.lst xs) => (match ixL xs.length k with
        | some j => .ok s (L2.set a (.lst (xs.set j v)))
        | none => .stuck)
      | _ => .stuck)
    | _, _ => .stuck
  | .fld o f, v, s, L => (evE o s L).bind fun x L1 => match x with
    | .ref a => (match L1[a]? with
      | some (.ins K fs) => if fs.length < 900 then .ok s (L1.set a (.ins K (putFL f v fs))) else .stuck
      | _ => .stuck)
    | _ => .stuck
def evGs : List Tg → List LV → Sl → LH → R Sl
  | [], [], s, L => .ok s L
  | t :: ts, v :: vs, s, L => (evG t v s L).bind fun s' L' => evGs ts vs s' L'
  | _, _, _, _ => .stuck
end
inductive MR where | hit (bs : List (Nat × LV)) | miss | stuck
def MR.bind : MR → (List (Nat × LV) → MR) → MR
  | .hit bs, f => f bs
  | .miss, _ => .miss
  | .stuck, _ => .stuck
@[simp] theorem MR.bind_hit (bs) (f) : (MR.hit bs).bind f = f bs := rfl
@[simp] theorem MR.bind_miss (f) : MR.miss.bind f = .miss := rfl
@[simp] theorem MR.bind_stuck (f) : MR.stuck.bind f = .stuck := rfl
mutual
def mtP (L : LH) : Pt → LV → MR
  | .val w, v => (match cmpV .eq v w L with
    | some true => .hit []
    | some false => .miss
    | none => .stuck)
  | .any, _ => .hit []
  | .nm i, v => .hit [(i, v)]
  | .tup ps, v => (match v with
    | .tup vs => if vs.length = ps.length then mtPs L ps vs else .miss
    | _ => .stuck)
  | .or _, _ => .stuck
def mtPs (L : LH) : List Pt → List LV → MR
  | [], [] => .hit []
  | p :: ps, v :: vs => (mtP L p v).bind fun a => (mtPs L ps vs).bind fun b => .hit (a ++ b)
  | _, _ => .stuck
end
def setAll (s : Sl) : List (Nat × LV) → Sl
  | [] => s
  | (i, v) :: r => setAll (s.set i (some v)) r
mutual
def evS : Sm → Sl → LH → SR
  | .asg t e, s, L => ((evE T C e s L).bind fun v L1 => evG T C t v s L1).toS fun s' L' => .nx s' L'
  | .aug i op e, s, L => (match sget s i with
    | some x => (evE T C e s L).toS fun y L1 => (augV op x y L1).toS fun z L2 => .nx (s.set i (some z)) L2
    | none => .stuck)
  | .augf _ _ _ _, _, _ => .stuck
  | .augs _ _ _ _, _, _ => .stuck
  | .exp e, s, L => (evE T C e s L).toS fun _ L1 => .nx s L1
  | .ite c a b, s, L => (evE T C c s L).toS fun k L1 => match k with
    | .bl true => evSs a s L1
    | .bl false => evSs b s L1
    | _ => .stuck
  | .for t it b, s, L => (evI T C it s L).toS fun p L1 => forL (fun x s L => (evG T C t x s L).toS fun s' L' => evSs b s' L') p.2 p.1 s L1
  | .whl c b, s, L => whlL (fun s L => evE T C c s L) (fun s L => evSs b s L) 100000 s L
  | .ret e, s, L => (evE T C e s L).toS fun v L1 => .rt v L1
  | .retN, _, L => .rt .non L
  | .brk, s, L => .bk s L
  | .cnt, s, L => .ct s L
  | .pass, s, L => .nx s L
  | .rse, _, _ => .stuck
  | .mch e cs, s, L => (evE T C e s L).toS fun v L1 => evCs cs v s L1
  | .del _ _, _, _ => .stuck
def evSs : List Sm → Sl → LH → SR
  | [], s, L => .nx s L
  | a :: r, s, L => (evS a s L).bind fun s' L' => evSs r s' L'
def evCs : List Cs → LV → Sl → LH → SR
  | [], _, s, L => .nx s L
  | .mk p b :: r, v, s, L => match mtP L p v with
    | .hit bs => evSs b (setAll s bs) L
    | .miss => evCs r v s L
    | .stuck => .stuck
end
/-- a def's body run -/
def evF (f : Fn) (vs : List LV) (L : LH) : R LV :=
  if vs.length = f.arity then (match evSs T C f.body (vs.map some ++ List.replicate (f.slots - vs.length) none) L with
    | .nx _ L' => .ok .non L'
    | .rt v L' => .ok v L'
    | _ => .stuck) else .stuck
end
end G
set_option Elab.async false
set_option linter.all false
set_option maxRecDepth 100000
/-! G3: readings of expressions by the evaluator; what it rests on. -/
namespace G
open PySem PySem.Spec PyProof.Rows L2

theorem PE.ex {X : Cx} {e : Expr} {t : TE} (h : ∀ σ H Q, t σ H Q → ∃ u, PE X e u ∧ u σ H Q) : PE X e t :=
  ⟨fun pins s σ H Q I q => let ⟨_, p, q'⟩ := h σ H Q q; p.run pins s σ H Q I q'⟩
theorem PT.ex {X : Cx} {e : Expr} {t : TT} (h : ∀ σ H Q, t σ H Q → ∃ u, PT X e u ∧ u σ H Q) : PT X e t :=
  ⟨fun pins s σ H Q I q => let ⟨_, p, q'⟩ := h σ H Q q; p.run pins s σ H Q I q'⟩
theorem PA.ex {X : Cx} {e : List Expr} {t : TA} (h : ∀ σ H Q, t σ H Q → ∃ u, PA X e u ∧ u σ H Q) : PA X e t :=
  ⟨fun pos pins s σ H Q I q => let ⟨_, p, q'⟩ := h σ H Q q; p.run pos pins s σ H Q I q'⟩
theorem PS.ex {X : Cx} {e : Stmt} {t : TS} (h : ∀ D σ H, t D σ H → ∃ u, PS X e u ∧ u D σ H) : PS X e t :=
  ⟨fun pins s σ H D I q => let ⟨_, p, q'⟩ := h D σ H q; p.run pins s σ H D I q'⟩
theorem PSs.ex {X : Cx} {e : List Stmt} {t : TS} (h : ∀ D σ H, t D σ H → ∃ u, PSs X e u ∧ u D σ H) : PSs X e t :=
  ⟨fun pins s σ H D I q => let ⟨_, p, q'⟩ := h D σ H q; p.run pins s σ H D I q'⟩
theorem PG.ex {X : Cx} {e : Expr} {t : TG} (h : ∀ v σ H Q, t v σ H Q → ∃ u, PG X e u ∧ u v σ H Q) : PG X e t :=
  ⟨fun pins s σ H v u Q I r q => let ⟨_, p, q'⟩ := h v σ H Q q; p.run pins s σ H v u Q I r q'⟩
/-- any rule of values, chosen where the values are known -/
def rAny2 (X : Cx) (f : Value → Value → Sem Value) : R2 := fun x y H Q => ∃ r, OpR X f r ∧ r x y H Q
theorem op_any {X : Cx} {f : Value → Value → Sem Value} : OpR X f (rAny2 X f) := fun pins s σ H x y v u Q I rx ry ⟨_, ho, h⟩ => ho pins s σ H x y v u Q I rx ry h
def rAnyC (X : Cx) (f : Value) : List V → Hp → VK → Prop := fun xs H Q => ∃ r, CallR X f r ∧ r xs H Q
theorem call_any {X : Cx} {f : Value} : CallR X f (rAnyC X f) := fun pins s σ H vs us Q I r ⟨_, ho, h⟩ => ho pins s σ H vs us Q I r h

section
variable {K : PySem.W.Frag} {cl : CA}
/-- the slots -/
def RS (K : PySem.W.Frag) (cl : CA) (ρ : List Addr) (H : Hp) (s : Sl) (σ : L2.St) : Prop :=
  s.length = σ.length ∧ ∀ (i : Nat) (v : LV), s[i]? = some (some v) → ∃ v', σ[i]? = some (some v') ∧ RV K cl ρ H v v'
theorem RS.nx {ρ ρ' : List Addr} {H H' : Hp} {L : LH} {s : Sl} {σ : L2.St} (r : RS K cl ρ H s σ) (e : Em K cl ρ L H) (n : Nx ρ ρ' H H') : RS K cl ρ' H' s σ :=
  ⟨r.1, fun i v h => let ⟨v', h1, h2⟩ := r.2 i v h; ⟨v', h1, RV.nx e n h2⟩⟩
theorem RS.get {ρ : List Addr} {H : Hp} {s : Sl} {σ : L2.St} (r : RS K cl ρ H s σ) {i : Nat} {v : LV} (h : sget s i = some v) : ∃ v', σ[i]? = some (some v') ∧ RV K cl ρ H v v' := by
  unfold sget at h
  split at h
  · rename_i w e
    cases h
    exact r.2 i _ e
  · cases h
theorem RS.set {ρ : List Addr} {H : Hp} {s : Sl} {σ : L2.St} (r : RS K cl ρ H s σ) {i : Nat} {v : LV} {v' : V} (h : RV K cl ρ H v v') : RS K cl ρ H (s.set i (some v)) (σ.set i (some v')) := by
  refine ⟨by rw [List.length_set, List.length_set, r.1], fun j w hw => ?_⟩
  by_cases hj : i = j
  · subst hj
    have hi : i < s.length := by
      have := (List.getElem?_eq_some_iff.mp hw).1
      simpa using this
    rw [List.getElem?_set_self hi] at hw
    cases hw
    exact ⟨v', List.getElem?_set_self (by rw [← r.1]; exact hi), h⟩
  · rw [List.getElem?_set_ne hj] at hw ⊢
    exact r.2 j w hw

def ClH (n : Nat) (L : LH) : Prop := ∀ (i : Nat) (o : LO), L[i]? = some o → clO n o = true
mutual
theorem RV.clo {ρ : List Addr} {H : Hp} : ∀ {v : LV} {v' : V}, RV K cl ρ H v v' → clV ρ.length v = true
  | .non, _, _ => rfl
  | .bl _, _, _ => rfl
  | .int _, _, _ => rfl
  | .str _, _, _ => rfl
  | .ref i, _, h => by
    obtain ⟨a, _, h⟩ := h
    simp only [clV, decide_eq_true_eq]
    exact (List.getElem?_eq_some_iff.mp h).1
  | .tup xs, _, h => by
    obtain ⟨_, _, _, _, h⟩ := h
    exact RVs.clo h
  | .fl xs, _, h => by
    obtain ⟨_, _, _, _, h⟩ := h
    exact RVs.clo h
  | .ob C ns xs, _, h => by
    obtain ⟨_, _, _, _, _, _, _, _, _, h⟩ := h
    exact RVs.clo h
theorem RVs.clo {ρ : List Addr} {H : Hp} : ∀ {v : List LV} {v' : List V}, RVs K cl ρ H v v' → clVs ρ.length v = true
  | [], _, _ => rfl
  | x :: xs, _, h => by
    obtain ⟨_, _, _, h1, h2⟩ := h
    simp only [clVs, Bool.and_eq_true]
    exact ⟨RV.clo h1, RVs.clo h2⟩
end
theorem RFs.clo {ρ : List Addr} {H : Hp} : ∀ {v : List (String × LV)} {v' : List (Str × V)}, RFs K cl ρ H v v' → clFs ρ.length v = true
  | [], _, _ => rfl
  | x :: xs, _, h => by
    obtain ⟨_, _, _, h1, h2⟩ := h
    simp only [clFs, Bool.and_eq_true]
    exact ⟨RV.clo h1, RFs.clo h2⟩
theorem RKs.clo {ρ : List Addr} {H : Hp} : ∀ {v : List (LV × LV)} {v' : List (Key × V)}, RKs K cl ρ H v v' → clKs ρ.length v = true
  | [], _, _ => rfl
  | x :: xs, _, h => by
    obtain ⟨_, _, _, _, _, h1, h2⟩ := h
    simp only [clKs, Bool.and_eq_true]
    exact ⟨RV.clo h1, RKs.clo h2⟩
theorem Em.clo {ρ : List Addr} {L : LH} {H : Hp} (e : Em K cl ρ L H) : ClH L.length L := by
  intro i o h
  obtain ⟨a, ha⟩ := e.adr h
  have := e.obj i o a h ha
  rw [← e.len]
  cases o with
  | lst xs => obtain ⟨_, _, r⟩ := this; exact r.clo
  | dic xs => obtain ⟨_, _, r⟩ := this; exact r.clo
  | ins c xs => obtain ⟨_, _, _, _, _, r⟩ := this; exact r.clo

section
variable {ρ ρ1 : List Addr} {H : Hp}
mutual
theorem RV.cut (p : ρ <+: ρ1) : ∀ {v : LV} {v' : V}, clV ρ.length v = true → RV K cl ρ1 H v v' → RV K cl ρ H v v'
  | .non, _, _, h => h
  | .bl _, _, _, h => h
  | .int _, _, _, h => h
  | .str _, _, _, h => h
  | .ref i, _, c, h => by
    simp only [clV, decide_eq_true_eq] at c
    obtain ⟨a, h1, h2⟩ := h
    refine ⟨a, h1, ?_⟩
    obtain ⟨t, rfl⟩ := p
    rwa [List.getElem?_append_left c] at h2
  | .tup xs, _, c, h => by
    obtain ⟨a, ys, h1, h2, h3⟩ := h
    exact ⟨a, ys, h1, h2, RVs.cut p c h3⟩
  | .fl xs, _, c, h => by
    obtain ⟨a, ys, h1, h2, h3⟩ := h
    refine ⟨a, ys, h1, ?_, RVs.cut p c h3⟩
    rcases h2 with ⟨h2, h4⟩ | h2 | h2
    · exact .inl ⟨h2, fun m => h4 (p.subset m)⟩
    · exact .inr (.inl h2)
    · exact .inr (.inr h2)
  | .ob C ns xs, _, c, h => by
    obtain ⟨a, ca, dx, ys, h1, h2, h3, h4, h5, h6⟩ := h
    exact ⟨a, ca, dx, ys, h1, h2, h3, fun m => h4 (p.subset m), h5, RVs.cut p c h6⟩
theorem RVs.cut (p : ρ <+: ρ1) : ∀ {v : List LV} {v' : List V}, clVs ρ.length v = true → RVs K cl ρ1 H v v' → RVs K cl ρ H v v'
  | [], _, _, h => h
  | x :: xs, _, c, h => by
    simp only [clVs, Bool.and_eq_true] at c
    obtain ⟨y, r, h1, h2, h3⟩ := h
    exact ⟨y, r, h1, RV.cut p c.1 h2, RVs.cut p c.2 h3⟩
end
theorem RFs.cut (p : ρ <+: ρ1) : ∀ {v : List (String × LV)} {v' : List (Str × V)}, clFs ρ.length v = true → RFs K cl ρ1 H v v' → RFs K cl ρ H v v'
  | [], _, _, h => h
  | x :: xs, _, c, h => by
    simp only [clFs, Bool.and_eq_true] at c
    obtain ⟨y, r, h1, h2, h3⟩ := h
    exact ⟨y, r, h1, RV.cut p c.1 h2, RFs.cut p c.2 h3⟩
theorem RKs.cut (p : ρ <+: ρ1) : ∀ {v : List (LV × LV)} {v' : List (Key × V)}, clKs ρ.length v = true → RKs K cl ρ1 H v v' → RKs K cl ρ H v v'
  | [], _, _, h => h
  | x :: xs, _, c, h => by
    simp only [clKs, Bool.and_eq_true] at c
    obtain ⟨k, y, r, h0, h1, h2, h3⟩ := h
    exact ⟨k, y, r, h0, h1, RV.cut p c.1 h2, RKs.cut p c.2 h3⟩
/-- the last object goes out of the logical heap -/
theorem Em.cut {L : LH} {o : LO} (p : ρ <+: ρ1) (c : ClH ρ.length L) (hl : ρ.length = L.length) (e : Em K cl ρ1 (L ++ [o]) H) : Em K cl ρ L H := by
  refine ⟨hl, e.nd.sublist p.sublist, fun i o' a hL hρ => ?_⟩
  have q := e.obj i o' a (by rw [List.getElem?_append_left (List.getElem?_eq_some_iff.mp hL).1]; exact hL) (pre_get p hρ)
  have c' := c i o' hL
  cases o' with
  | lst xs => obtain ⟨ys, q1, q2⟩ := q; exact ⟨ys, q1, RVs.cut p c' q2⟩
  | dic xs => obtain ⟨ys, q1, q2⟩ := q; exact ⟨ys, q1, RKs.cut p c' q2⟩
  | ins C fs => obtain ⟨c0, dx, ys, q0, q1, q2⟩ := q; exact ⟨c0, dx, ys, q0, q1, RFs.cut p c' q2⟩
end
theorem rfs_ob {ρ : List Addr} {H : Hp} : ∀ {fs : List (String × LV)} {ys : List (Str × V)}, RFs K cl ρ H fs ys → ∃ zs, ys = ((fs.map (·.1)).map Str.ofString).zip zs ∧ RVs K cl ρ H (fs.map (·.2)) zs
  | [], ys, h => ⟨[], by rw [show ys = [] from h]; rfl, rfl⟩
  | x :: fs, ys, h => by
    obtain ⟨y, r, rfl, h1, h2⟩ := h
    obtain ⟨zs, rfl, h3⟩ := rfs_ob h2
    exact ⟨y :: zs, rfl, y, zs, rfl, h1, h3⟩
/-- what is frozen -/
theorem fz_read {ρ ρ1 : List Addr} {H H1 : Hp} {L L1 L2 : LH} {w v : LV} {w' : V} {Q : VK} (em : Em K cl ρ L H) (h : fzV L w L1 = .ok v L2) (n1 : Nx ρ ρ1 H H1) (em1 : Em K cl ρ1 L1 H1) (rw' : RV K cl ρ1 H1 w w')
    (q : ∀ ρ' H' v', Nx ρ ρ' H H' → Em K cl ρ' L2 H' → RV K cl ρ' H' v v' → Q v' H') : Q w' H1 := by
  cases w with
  | ref i =>
    simp only [fzV] at h
    split at h
    · rename_i hc
      obtain ⟨rfl, h1, h2⟩ := hc
      obtain ⟨o, ho⟩ : ∃ o, L1 = L ++ [o] := by
        have hd : (L1.drop L.length).length = 1 := by rw [List.length_drop]; omega
        obtain ⟨o, ho⟩ := List.length_eq_one_iff.mp hd
        exact ⟨o, by rw [← ho]; conv => lhs; rw [← List.take_append_drop L.length L1, h1]⟩
      subst ho
      have hlen : ρ1.length = ρ.length + 1 := by rw [em1.len, List.length_append, em.len]; rfl
      obtain ⟨D, hD, hD2⟩ := rw'
      have nD : D ∉ ρ := fun m => by
        obtain ⟨k, hk, e⟩ := List.mem_iff_getElem.mp m
        have e1 : ρ1[k]? = some D := pre_get n1.pre (by rw [List.getElem?_eq_getElem hk, e])
        obtain ⟨l1, e1⟩ := List.getElem?_eq_some_iff.mp e1
        obtain ⟨l2, e2⟩ := List.getElem?_eq_some_iff.mp hD2
        have := (List.getElem_inj em1.nd).mp (e1.trans e2.symm)
        rw [em.len] at hk
        omega
      have emc : Em K cl ρ L H1 := em1.cut n1.pre (by rw [em.len]; exact em.clo) em.len
      have nx : Nx ρ ρ H H1 := ⟨List.prefix_refl _, fun a o h n => ⟨(n1.fr a o h n).1, n⟩⟩
      have ho := em1.obj L.length o D (by simp) hD2
      simp only [List.getElem?_append_right (Nat.le_refl _), Nat.sub_self, List.getElem?_cons_zero] at h
      subst hD
      cases o with
      | lst xs =>
        simp only at h
        split at h
        · rename_i hcl
          cases h
          obtain ⟨ys, y1, y2⟩ := ho
          exact q ρ H1 _ nx emc ⟨D, ys, rfl, .inl ⟨y1, nD⟩, RVs.cut n1.pre (by rw [em.len]; exact hcl) y2⟩
        · cases h
      | ins C fs =>
        simp only at h
        split at h
        · rename_i hcl
          cases h
          obtain ⟨c, dx, ys, y0, y1, y2⟩ := ho
          obtain ⟨zs, rfl, y3⟩ := rfs_ob (RFs.cut n1.pre (by rw [em.len]; exact hcl) y2)
          exact q ρ H1 _ nx emc ⟨D, c, dx, zs, rfl, y0, y1, nD, by simp, y3⟩
        · cases h
      | dic _ => cases h
    · cases h
  | _ => cases h; exact q ρ1 H1 w' n1 em1 rw'
/-- what a result promises -/
def Rd {α β : Type} (K : PySem.W.Frag) (cl : CA) (ρ : List Addr) (H : Hp) (r : R α) (RA : List Addr → Hp → α → β → Prop) (Q : β → Hp → Prop) : Prop :=
  ∃ v L', r = .ok v L' ∧ ∀ ρ' H' v', Nx ρ ρ' H H' → Em K cl ρ' L' H' → RA ρ' H' v v' → Q v' H'
theorem Rd.bind {α β γ δ : Type} {ρ : List Addr} {H : Hp} {r : R α} {f : α → LH → R γ} {RA : List Addr → Hp → γ → δ → Prop} {Q : δ → Hp → Prop} (RB : List Addr → Hp → α → β → Prop)
    (h : Rd K cl ρ H (r.bind f) RA Q) : Rd K cl ρ H r RB fun x' H1 => ∃ ρ1 x L1, Nx ρ ρ1 H H1 ∧ Em K cl ρ1 L1 H1 ∧ RB ρ1 H1 x x' ∧ Rd K cl ρ1 H1 (f x L1) RA Q := by
  obtain ⟨v, L', e, q⟩ := h
  cases r with
  | stuck => cases e
  | ok x L1 =>
    refine ⟨x, L1, rfl, fun ρ1 H1 x' n1 e1 rx => ⟨ρ1, x, L1, n1, e1, rx, v, L', e, fun ρ2 H2 v' n2 e2 rv => q ρ2 H2 v' (n1.trans n2) e2 rv⟩⟩
theorem Rd.imp {α β : Type} {ρ : List Addr} {H : Hp} {r : R α} {RA : List Addr → Hp → α → β → Prop} {Q Q' : β → Hp → Prop} (h : Rd K cl ρ H r RA Q) (i : ∀ v H, Q v H → Q' v H) : Rd K cl ρ H r RA Q' :=
  let ⟨v, L', e, q⟩ := h; ⟨v, L', e, fun ρ' H' v' n e r => i _ _ (q ρ' H' v' n e r)⟩
theorem Rd.ok {α β : Type} {ρ : List Addr} {H : Hp} {a : α} {L : LH} {RA : List Addr → Hp → α → β → Prop} {Q : β → Hp → Prop} (h : Rd K cl ρ H (.ok a L) RA Q) (e : Em K cl ρ L H) {v : β} (r : RA ρ H a v) : Q v H := by
  obtain ⟨v', L', e', q⟩ := h
  cases e'
  exact q ρ H v Nx.refl e r
theorem Rd.ok' {α β : Type} {ρ ρ' : List Addr} {H H' : Hp} {a : α} {L : LH} {RA : List Addr → Hp → α → β → Prop} {Q : β → Hp → Prop} (h : Rd K cl ρ H (.ok a L) RA Q) (n : Nx ρ ρ' H H') (e : Em K cl ρ' L H') {v : β} (r : RA ρ' H' a v) : Q v H' := by
  obtain ⟨v', L', e', q⟩ := h
  cases e'
  exact q ρ' H' v n e r
theorem Rd.stuck {α β : Type} {ρ : List Addr} {H : Hp} {RA : List Addr → Hp → α → β → Prop} {Q : β → Hp → Prop} (h : Rd K cl ρ H (.stuck : R α) RA Q) : False := by
  obtain ⟨v', L', e', q⟩ := h
  cases e'
theorem Rd.of {α β : Type} {ρ : List Addr} {H : Hp} {o : Option α} {L : LH} {RA : List Addr → Hp → α → β → Prop} {Q : β → Hp → Prop} (h : Rd K cl ρ H (R.of o L) RA Q) : ∃ a, o = some a ∧ Rd K cl ρ H (.ok a L) RA Q := by
  cases o with
  | none => exact h.stuck.elim
  | some a => exact ⟨a, rfl, h⟩
end

/-- a def's promise by the function that says what it gives -/
def spS (K : PySem.W.Frag) (cl : CA) (F : List LV → LH → R LV) : Sp := fun vs H Q _ =>
  ∃ ρ args L, Em K cl ρ L H ∧ RVs K cl ρ H args vs ∧ Rd K cl ρ H (F args L) (RV K cl) Q

/-! ### what the evaluator rests on -/
def visB (sc : Scope) (x : Str) : Bool := match sc.names.lookup x with | some .local => true | some .cell => true | some .free => true | _ => false
def locB (sc : Scope) (x : Str) : Bool := match sc.names.lookup x with | some .local => true | some .cell => true | _ => false
def glB (sc : Scope) (x : Str) : Bool := match sc.names.lookup x with | some .globalImplicit => true | _ => false
def bltB : List String := ["any", "all", "sum", "sorted", "len", "abs", "min", "max", "isinstance"]
def bltT : List String := ["enumerate", "int", "list", "tuple", "range", "bool", "str", "dict"]
/-- the calls' shapes that stand in the text -/
structure Sig where
  call : String → Nat → List LV → Bool
  calk : String → Nat → List String → List LV → Bool
  new : String → Nat → List LV → Bool
  mth : String → Nat → List LV → Bool
  fld : String → Bool
  dun : String → Bool
  scl : String → String → Nat → List LV → Bool

/-- constants that fill up a call -/
def Fill (K : PySem.W.Frag) (cl : CA) (fd : FuncData) (ps : List Str) (ds : List LV) : Prop :=
  ∃ dv dV, Vals dv dV ∧ Binds K fd ps dV ∧ ∀ ρ H, RVs K cl ρ H ds dv
/-- .. behind positional values and keywords -/
def KFill (K : PySem.W.Frag) (cl : CA) (fd : FuncData) (ps : List Str) (n : Nat) (ks : List String) (ds : List LV) : Prop :=
  ∃ dv dV, Vals dv dV ∧ KBn K fd ps n (ks.map Str.ofString) (fun us ws => us ++ ws ++ dV) (fun vs zs => vs ++ zs ++ dv) ∧ ∀ ρ H, RVs K cl ρ H ds dv
/-- a method of an operator -/
def Dun (K : PySem.W.Frag) (ca fa : Addr) (m : String) : Prop := PySem.W.selfFirst K ca = true ∧ PySem.W.findIn K (.ref ca) (Str.ofString m) = some (some (.ref fa)) ∧ PySem.W.isFn K (.ref fa) = true
/-- a static method: its record at pa around the def at fa -/
def Stat (K : PySem.W.Frag) (ca fa : Addr) (m : Str) : Prop := ClX.CRead K ca (.type "type") ∧ PySem.W.keepIn K (.ref fa) = true ∧
  ∃ pa, PySem.W.findCls K (.ref ca) (.type "type") m = some (.get (.builtin "staticmethod.__get__") (.ref pa) .none (.ref ca)) ∧ ∃ rest, PySem.W.recIn K pa "staticmethod" = some (.ref fa :: rest)
structure FcP (P : Program) (w : World) (K : PySem.W.Frag) (mg : Str → Option Value) (base : Heap) (k : Nat) (cl : CA) (T : Tbl) (C : Orc) (S : Sig) : Prop where
  glob : ∀ x v, T.glob x = some v → ∃ u y, mg (Str.ofString x) = some u ∧ RelV y u ∧ ∀ ρ H, RV K cl ρ H v y
  bl : ∀ x, x ∈ bltB ∨ x ∈ bltT → mg (Str.ofString x) = none
  call : ∀ f n ds, S.call f n ds = true → ∃ fa fd ps, mg (Str.ofString f) = some (.ref fa) ∧ PySem.W.keepIn K (.ref fa) = true ∧
    FnOk P w K mg base CX0 k fa fd ps (spS K cl (C f)) ∧ Fill K cl fd ps ds
  calk : ∀ f n ks ds, S.calk f n ks ds = true → ∃ fa fd ps, mg (Str.ofString f) = some (.ref fa) ∧ PySem.W.keepIn K (.ref fa) = true ∧
    FnOk P w K mg base CX0 k fa fd ps (spS K cl (C f)) ∧ KFill K cl fd ps n ks ds
  new : ∀ c n ds, S.new c n ds = true → ∃ ca fa fd ps, cl c = some ca ∧ mg (Str.ofString c) = some (.ref ca) ∧ Mk K ca fa ∧
    FnOk P w K mg base CX0 k fa fd ps (spS K cl (C (c ++ ".__init__"))) ∧ Fill K cl fd ps ds
  mth : ∀ m n ds, S.mth m n ds = true → ∀ c ca, cl c = some ca → (∀ vs L, C (c ++ "." ++ m) vs L = .stuck) ∨ (∃ fa fd ps, Meth K ca (Str.ofString m) fa ∧
    FnOk P w K mg base CX0 k fa fd ps (spS K cl (C (c ++ "." ++ m))) ∧ Fill K cl fd ps ds)
  dun : ∀ m, S.dun m = true → ∀ c ca, cl c = some ca → (∀ vs L, C (c ++ "." ++ m) vs L = .stuck) ∨ (∃ fa fd ps, Dun K ca fa m ∧
    FnOk P w K mg base CX0 k fa fd ps (spS K cl (C (c ++ "." ++ m))) ∧ Fill K cl fd ps [])
  scl : ∀ c m n ds, S.scl c m n ds = true → ∃ ca fa fd ps, mg (Str.ofString c) = some (.ref ca) ∧ Stat K ca fa (Str.ofString m) ∧
    FnOk P w K mg base CX0 k fa fd ps (spS K cl (C (c ++ "." ++ m))) ∧ Fill K cl fd ps ds
  cls : ∀ c ca, cl c = some ca → Cls K ca
  fld : ∀ f, S.fld f = true → ∀ c ca, cl c = some ca → NoAttr K ca (Str.ofString f)
abbrev Fc (X : Cx) (k : Nat) (cl : CA) (T : Tbl) (C : Orc) (S : Sig) : Prop := FcP X.prog X.w X.K X.mg X.base k cl T C S

structure Good (X : Cx) (N : List Str) (sc wsc : Scope) (k : Nat) (cl : CA) (T : Tbl) (C : Orc) (S : Sig) : Prop where
  hsc : X.env.scope = sc
  N : X.N = N
  nd : X.N.Nodup
  calm : X.calm = true
  room : Room (k + 1) X.A
  fc : Fc X k cl T C S
  never : X.xe = fun _ _ => False
  fn : ∀ x, locB wsc x = true → Loc X.env.scope x ∧ (X.fn x = true ∨ X.env.scope.names.lookup x = some .local)

def rdE (K : PySem.W.Frag) (cl : CA) (T : Tbl) (C : Orc) (e : Ex) : TE := fun σ H Q => ∃ ρ s L, Em K cl ρ L H ∧ RS K cl ρ H s σ ∧ Rd K cl ρ H (evE T C e s L) (RV K cl) Q
def rdA (K : PySem.W.Frag) (cl : CA) (T : Tbl) (C : Orc) (e : List Ex) : TA := fun σ H Q => ∃ ρ s L, Em K cl ρ L H ∧ RS K cl ρ H s σ ∧ Rd K cl ρ H (evEs T C e s L) (RVs K cl) Q
def RB (_ : List Addr) (_ : Hp) (b b' : Bool) : Prop := b = b'
def rdT (K : PySem.W.Frag) (cl : CA) (T : Tbl) (C : Orc) (e : Ex) : TT := fun σ H Q => ∃ ρ s L, Em K cl ρ L H ∧ RS K cl ρ H s σ ∧
  Rd K cl ρ H ((evE T C e s L).bind asB) RB Q
def rdC (K : PySem.W.Frag) (cl : CA) (T : Tbl) (C : Orc) (e : Option Ex) : TT := fun σ H Q => ∃ ρ s L, Em K cl ρ L H ∧ RS K cl ρ H s σ ∧
  Rd K cl ρ H (evC T C e s L) RB Q

mutual
def tgN : Tg → List Nat
  | .nm i => [i]
  | .tup ts => tgNs ts
  | _ => []
def tgNs : List Tg → List Nat
  | [] => []
  | t :: ts => tgN t ++ tgNs ts
end
/-- behind a store: the slots, and that no others have changed -/
def RG (K : PySem.W.Frag) (cl : CA) (ns : List Nat) (σ : L2.St) (ρ : List Addr) (H : Hp) (s : Sl) (σ' : L2.St) : Prop :=
  RS K cl ρ H s σ' ∧ ∀ own : List Nat, (∀ i ∈ ns, i ∈ own) → L2.wipe σ' own = L2.wipe σ own
def rdG (K : PySem.W.Frag) (cl : CA) (T : Tbl) (C : Orc) (t : Tg) : TG := fun v' σ H Q => ∃ ρ s L v, Em K cl ρ L H ∧ RS K cl ρ H s σ ∧ RV K cl ρ H v v' ∧ Rd K cl ρ H (evG T C t v s L) (RG K cl (tgN t) σ) Q
def rdGs (K : PySem.W.Frag) (cl : CA) (T : Tbl) (C : Orc) (t : List Tg) : TGs := fun v' σ H Q => ∃ ρ s L v, Em K cl ρ L H ∧ RS K cl ρ H s σ ∧ RVs K cl ρ H v v' ∧ Rd K cl ρ H (evGs T C t v s L) (RG K cl (tgNs t) σ) Q
/-- the walk J goes through the items -/
structure Wk (K : PySem.W.Frag) (cl : CA) (J : L2.It) (xs : List LV) (c : Option (Nat × List LV)) (ρ1 : List Addr) (H1 : Hp) : Prop where
  go : ∀ (i : Nat) (x : LV) (ρ' : List Addr) (L' : LH) (H' : Hp), Nx ρ1 ρ' H1 H' → Em K cl ρ' L' H' → chkOk c L' = true → xs[i]? = some x →
    J.go i H' ∧ ∀ v H'', J.yld i H' v H'' → Em K cl ρ' L' H'' ∧ Nx ρ' ρ' H' H'' ∧ RV K cl ρ' H'' x v
  stop : ∀ (ρ' : List Addr) (L' : LH) (H' : Hp), Nx ρ1 ρ' H1 H' → Em K cl ρ' L' H' → chkOk c L' = true → J.stop xs.length H'
def rdI (K : PySem.W.Frag) (cl : CA) (T : Tbl) (C : Orc) (e : It) : TI := fun σ H R => ∃ ρ s L, Em K cl ρ L H ∧ RS K cl ρ H s σ ∧ ∃ p L1, evI T C e s L = .ok p L1 ∧
  ∀ ρ1 H1 J, Nx ρ ρ1 H H1 → Em K cl ρ1 L1 H1 → Wk K cl J p.1 p.2 ρ1 H1 → R J H1
def ROI (_ : List Addr) (_ : Hp) (b b' : Option Int) : Prop := b = b'
def rdO (K : PySem.W.Frag) (cl : CA) (T : Tbl) (C : Orc) (e : Option Ex) : TO := fun σ H Q => ∃ ρ s L, Em K cl ρ L H ∧ RS K cl ρ H s σ ∧
  Rd K cl ρ H (evO T C e s L) ROI Q

/-! ### the text against the syntax without places -/
section
variable (N : List Str) (S : Sig) (T : Tbl)
def isBop : BOp → Operator → Bool
  | .bor, .BitOr => true | .add, .Add => true | .sub, .Sub => true | .mul, .Mult => true | .fdv, .FloorDiv => true | .mod, .Mod => true | _, _ => false
def isCop : COp → CmpOp → Bool
  | .eq, .Eq => true | .ne, .NotEq => true | .lt, .Lt => true | .le, .LtE => true | .gt, .Gt => true | .ge, .GtE => true
  | .isn, .Is => true | .nisn, .IsNot => true | .inn, .In => true | .nin, .NotIn => true | _, _ => false
/-- the base of an attribute is read as it stands -/
def baseB : Expr → Bool
  | .Call (.Name id _) [] [] _ => id != ("super" : Str)
  | _ => true
def mthB : List String := ["append", "pop"]
mutual
def isE (sc : Scope) : Ex → Expr → Bool
  | .var i, .Name x _ => decide (N[i]? = some x) && visB sc x && x != ("__debug__" : Str) && x != ("__classdict__" : Str)
  | .con .non, .Constant .none _ _ => true
  | .con (.bl b), .Constant (.bool c) _ _ => b == c
  | .con (.int i), .Constant (.int j) _ _ => i == j
  | .con (.str s), .Constant (.str t) _ _ => decide (Str.ofString s = t)
  | .glo x, .Name y _ => decide (Str.ofString x = y) && glB sc y && y != ("__debug__" : Str)
  | .bin op a b, .BinOp l o r _ => isBop op o && isE sc a l && isE sc b r && (match dunB op with | some m => S.dun m | none => true)
  | .neg a, .UnaryOp .USub l _ => isE sc a l
  | .cmp op a b, .Compare l [o] [r] _ => isCop op o && isE sc a l && isE sc b r && !behindInMarks o r && (match op with | .inn => S.dun "__contains__" | .nin => S.dun "__contains__" | _ => true)
  | .chn o1 o2 a b c, .Compare l [p1, p2] [m, r] _ => isCop o1 p1 && isCop o2 p2 && isE sc a l && isE sc b m && isE sc c r && !behindInMarks p1 m && !behindInMarks p2 r
  | .ite c a b, .IfExp t l r _ => isE sc c t && isE sc a l && isE sc b r
  | .and a b, .BoolOp .And (x :: y :: r) p => isE sc a x && (match r with | [] => isE sc b y | _ :: _ => isE sc b (.BoolOp .And (y :: r) p))
  | .or a b, .BoolOp .Or (x :: y :: r) p => isE sc a x && (match r with | [] => isE sc b y | _ :: _ => isE sc b (.BoolOp .Or (y :: r) p))
  | .not a, .UnaryOp .Not l _ => isE sc a l
  | .tup xs, .Tuple es _ _ => isEs sc xs es
  | .lst xs, .List es _ => isEs sc xs es
  | .call f xs ds, .Call (.Name x _) es [] _ => decide (Str.ofString f = x) && glB sc x && x != ("__debug__" : Str) && isEs sc xs es && S.call f xs.length ds
  | .calk f xs ks zs ds, .Call (.Name x _) es kws _ => decide (Str.ofString f = x) && glB sc x && x != ("__debug__" : Str) && isEs sc xs es && isKs sc ks zs kws && S.calk f xs.length ks ds
  | .new f xs ds, .Call (.Name x _) es [] _ => decide (Str.ofString f = x) && glB sc x && x != ("__debug__" : Str) && isEs sc xs es && S.new f xs.length ds
  | .blt f xs, .Call (.Name x _) es [] _ => decide (Str.ofString f = x) && glB sc x && (["len", "abs", "min", "max", "int", "list", "tuple", "any", "all", "sum", "sorted"] : List String).contains f && isEs sc xs es && decide (0 < xs.length)
  | .isi a [t], .Call (.Name x _) [e, .Name y _] [] _ => decide (Str.ofString "isinstance" = x) && glB sc x && decide (Str.ofString t = y) && glB sc y && (["int", "bool", "str", "list", "tuple", "dict"] : List String).contains t && isE sc a e
  | .fld e f, .Attribute o g _ => decide (Str.ofString f = g) && baseB o && S.fld f && isE sc e o
  | .mth e m xs ds, .Call (.Attribute o g ap) es [] p => decide (Str.ofString m = g) && baseB o && isE sc e o && isEs sc xs es && decide (xs.length < 20) && (ap.endLine == p.line) && S.mth m xs.length ds
  | .idx a i, .Subscript o k _ => isE sc a o && isE sc i k && (match k with | .Slice _ _ _ _ => false | _ => true)
  | .slc a lo hi, .Subscript o (.Slice l h none _) _ => isE sc a o && isO sc lo l && isO sc hi h
  | .cpr elt tg src cond own, .ListComp e [⟨t, i, ifs, 0⟩] scope _ => isI sc t src i && isG (relS scope sc) scope tg t && isE (relS scope sc) elt e && isC (relS scope sc) cond ifs &&
      blkC N sc scope (own.map fun i => (N.getD i Str.empty, i)) && (tgN tg).all (fun i => own.contains i)
  | .cpr2 elt tg src cond tg1 src1 cond1 own own1, .ListComp e [⟨t, i, ifs, 0⟩, ⟨t1, i1, ifs1, 0⟩] scope _ => isI sc t src i && isG (relS scope sc) scope tg t && isC (relS scope sc) cond ifs &&
      isI (relS scope sc) t1 src1 i1 && isG (relS scope sc) scope tg1 t1 && isC (relS scope sc) cond1 ifs1 && isE (relS scope sc) elt e &&
      blkC N sc scope (own.map fun i => (N.getD i Str.empty, i)) && (tgN tg).all (fun i => own.contains i) && (tgN tg1).all (fun i => own1.contains i) && own1.all (fun i => own.contains i)
  | .scl c m xs ds, .Call (.Attribute (.Name x _) g ap) es [] p => decide (Str.ofString c = x) && glB sc x && x != ("__debug__" : Str) && decide (Str.ofString m = g) && baseB (.Name x p) && isEs sc xs es &&
      decide (xs.length < 20) && (ap.endLine == p.line) && S.scl c m xs.length ds
  | .frz a, e => isE sc a e
  | _, _ => false
def isEs (sc : Scope) : List Ex → List Expr → Bool
  | [], [] => true
  | x :: xs, e :: es => isE sc x e && isEs sc xs es
  | _, _ => false
def isKs (sc : Scope) : List String → List Ex → List Keyword → Bool
  | [], [], [] => true
  | k :: ks, z :: zs, ⟨some n, v, _⟩ :: kws => decide (Str.ofString k = n) && isE sc z v && isKs sc ks zs kws
  | _, _, _ => false
def isO (sc : Scope) : Option Ex → Option Expr → Bool
  | none, none => true
  | some x, some e => isE sc x e
  | _, _ => false
def isC (sc : Scope) : Option Ex → List Expr → Bool
  | none, [] => true
  | some x, [e] => isE sc x e
  | _, _ => false
/-- what is walked (t: the target) -/
def isI (sc : Scope) (t : Expr) : It → Expr → Bool
  | .of x, e => isE sc x e
  | .rng [x], .Call (.Name r _) [e] [] _ => decide (Str.ofString "range" = r) && glB sc r && isE sc x e
  | .rng [x, y], .Call (.Name r _) [e, f] [] _ => decide (Str.ofString "range" = r) && glB sc r && isE sc x e && isE sc y f
  | .enm x, .Call (.Name r _) [e] [] _ => decide (Str.ofString "enumerate" = r) && glB sc r && isE sc x e && (match t with | .Tuple _ _ _ => true | _ => false)
  | _, _ => false
/-- a target; wsc: the scope as it is written -/
def isG (sc wsc : Scope) : Tg → Expr → Bool
  | .nm i, .Name x _ => decide (N[i]? = some x) && locB wsc x
  | .tup ts, .Tuple es _ _ => isGs sc wsc ts es
  | .sub o i, .Subscript e k _ => isE sc o e && isE sc i k && (match k with | .Slice _ _ _ _ => false | _ => true)
  | .fld o f, .Attribute e g _ => decide (Str.ofString f = g) && S.fld f && isE sc o e
  | _, _ => false
def isGs (sc wsc : Scope) : List Tg → List Expr → Bool
  | [], [] => true
  | t :: ts, e :: es => isG sc wsc t e && isGs sc wsc ts es
  | _, _ => false
end
end
end G
set_option Elab.async false
set_option linter.all false
set_option maxRecDepth 100000
set_option maxHeartbeats 4000000
/-! G4: what the look at the text says, shape by shape. -/
namespace G
open PySem PySem.Spec PyProof.Rows L2
section
variable {N : List Str} {S : Sig} {sc : Scope} {e : Expr}
theorem inv_var {i} (h : isE N S sc (.var i) e = true) : ∃ x p, e = .Name x p ∧ N[i]? = some x ∧ visB sc x = true ∧ (x == ("__debug__" : Str)) = false ∧ (x == ("__classdict__" : Str)) = false := by
  cases e with
  | Name x p =>
    simp only [isE, Bool.and_eq_true, decide_eq_true_eq, bne_iff_ne, ne_eq] at h
    obtain ⟨⟨⟨a, b⟩, c⟩, d⟩ := h
    exact ⟨x, p, rfl, a, b, by simpa using c, by simpa using d⟩
  | _ => simp [isE] at h
theorem inv_con {v} (h : isE N S sc (.con v) e = true) : ∃ j p, (v = .non ∧ e = .Constant .none j p) ∨ (∃ b, v = .bl b ∧ e = .Constant (.bool b) j p) ∨ (∃ i, v = .int i ∧ e = .Constant (.int i) j p) ∨ (∃ s, v = .str s ∧ e = .Constant (.str (Str.ofString s)) j p) := by
  cases e with
  | Constant c j p =>
    refine ⟨j, p, ?_⟩
    cases v with
    | non => cases c <;> simp [isE] at h ⊢
    | bl b => cases c <;> simp [isE] at h ⊢; exact h.symm
    | int b => cases c <;> simp [isE] at h ⊢; exact h.symm
    | str b => cases c <;> simp [isE] at h ⊢; exact h.symm
    | _ => simp [isE] at h
  | _ => cases v <;> simp [isE] at h
theorem inv_glo {x} (h : isE N S sc (.glo x) e = true) : ∃ p, e = .Name (Str.ofString x) p ∧ glB sc (Str.ofString x) = true ∧ (Str.ofString x == ("__debug__" : Str)) = false := by
  cases e with
  | Name y p =>
    simp only [isE, Bool.and_eq_true, decide_eq_true_eq, bne_iff_ne, ne_eq] at h
    obtain ⟨⟨a, b⟩, c⟩ := h
    subst a
    exact ⟨p, rfl, b, by simpa using c⟩
  | _ => simp [isE] at h
theorem inv_bin {op a b} (h : isE N S sc (.bin op a b) e = true) : ∃ l o r p, e = .BinOp l o r p ∧ isBop op o = true ∧ isE N S sc a l = true ∧ isE N S sc b r = true ∧ ∀ m, dunB op = some m → S.dun m = true := by
  cases e with
  | BinOp l o r p =>
    simp only [isE, Bool.and_eq_true] at h
    refine ⟨l, o, r, p, rfl, h.1.1.1, h.1.1.2, h.1.2, fun m e => ?_⟩
    have h2 := h.2
    rw [e] at h2
    exact h2
  | _ => simp [isE] at h
theorem inv_neg {a} (h : isE N S sc (.neg a) e = true) : ∃ l p, e = .UnaryOp .USub l p ∧ isE N S sc a l = true := by
  cases e with
  | UnaryOp o l p =>
    cases o <;> simp only [isE, Bool.false_eq_true] at h
    exact ⟨l, p, rfl, h⟩
  | _ => simp [isE] at h
theorem inv_not {a} (h : isE N S sc (.not a) e = true) : ∃ l p, e = .UnaryOp .Not l p ∧ isE N S sc a l = true := by
  cases e with
  | UnaryOp o l p =>
    cases o <;> simp only [isE, Bool.false_eq_true] at h
    exact ⟨l, p, rfl, h⟩
  | _ => simp [isE] at h
theorem inv_cmp {op a b} (h : isE N S sc (.cmp op a b) e = true) : ∃ l o r p, e = .Compare l [o] [r] p ∧ isCop op o = true ∧ isE N S sc a l = true ∧ isE N S sc b r = true ∧ behindInMarks o r = false ∧ ((op = .inn ∨ op = .nin) → S.dun "__contains__" = true) := by
  cases e with
  | Compare l os rs p =>
    match os, rs, h with
    | [o], [r], h =>
      simp only [isE, Bool.and_eq_true, Bool.not_eq_true'] at h
      refine ⟨l, o, r, p, rfl, h.1.1.1.1, h.1.1.1.2, h.1.1.2, h.1.2, fun e => ?_⟩
      have h2 := h.2
      rcases e with rfl | rfl <;> exact h2
    | [], _, h => simp [isE] at h
    | [_], [], h => simp [isE] at h
    | [_], _ :: _ :: _, h => simp [isE] at h
    | _ :: _ :: _, _, h => simp [isE] at h
  | _ => simp [isE] at h
theorem inv_chn {o1 o2 a b c} (h : isE N S sc (.chn o1 o2 a b c) e = true) : ∃ l p1 p2 m r p, e = .Compare l [p1, p2] [m, r] p ∧ isCop o1 p1 = true ∧ isCop o2 p2 = true ∧ isE N S sc a l = true ∧ isE N S sc b m = true ∧ isE N S sc c r = true ∧ behindInMarks p1 m = false ∧ behindInMarks p2 r = false := by
  cases e with
  | Compare l os rs p =>
    match os, rs, h with
    | [p1, p2], [m, r], h =>
      simp only [isE, Bool.and_eq_true, Bool.not_eq_true'] at h
      obtain ⟨⟨⟨⟨⟨⟨h1, h2⟩, h3⟩, h4⟩, h5⟩, h6⟩, h7⟩ := h
      exact ⟨l, p1, p2, m, r, p, rfl, h1, h2, h3, h4, h5, h6, h7⟩
    | [], _, h => simp [isE] at h
    | [_], _, h => simp [isE] at h
    | [_, _], [], h => simp [isE] at h
    | [_, _], [_], h => simp [isE] at h
    | [_, _], _ :: _ :: _ :: _, h => simp [isE] at h
    | _ :: _ :: _ :: _, _, h => simp [isE] at h
  | _ => simp [isE] at h
theorem inv_ite {c a b} (h : isE N S sc (.ite c a b) e = true) : ∃ t l r p, e = .IfExp t l r p ∧ isE N S sc c t = true ∧ isE N S sc a l = true ∧ isE N S sc b r = true := by
  cases e with
  | IfExp t l r p =>
    simp only [isE, Bool.and_eq_true] at h
    exact ⟨t, l, r, p, rfl, h.1.1, h.1.2, h.2⟩
  | _ => simp [isE] at h
theorem inv_and {a b} (h : isE N S sc (.and a b) e = true) : ∃ x y r p, e = .BoolOp .And (x :: y :: r) p ∧ isE N S sc a x = true ∧ ((r = [] ∧ isE N S sc b y = true) ∨ (∃ z t, r = z :: t ∧ isE N S sc b (.BoolOp .And (y :: r) p) = true)) := by
  cases e with
  | BoolOp o vs p =>
    match o, vs, h with
    | .And, x :: y :: [], h =>
      simp only [isE, Bool.and_eq_true] at h
      exact ⟨x, y, [], p, rfl, h.1, .inl ⟨rfl, h.2⟩⟩
    | .And, x :: y :: z :: t, h =>
      simp only [isE, Bool.and_eq_true] at h
      exact ⟨x, y, z :: t, p, rfl, h.1, .inr ⟨z, t, rfl, h.2⟩⟩
    | .And, [], h => simp [isE] at h
    | .And, [_], h => simp [isE] at h
    | .Or, _, h => simp [isE] at h
  | _ => simp [isE] at h
theorem inv_or {a b} (h : isE N S sc (.or a b) e = true) : ∃ x y r p, e = .BoolOp .Or (x :: y :: r) p ∧ isE N S sc a x = true ∧ ((r = [] ∧ isE N S sc b y = true) ∨ (∃ z t, r = z :: t ∧ isE N S sc b (.BoolOp .Or (y :: r) p) = true)) := by
  cases e with
  | BoolOp o vs p =>
    match o, vs, h with
    | .Or, x :: y :: [], h =>
      simp only [isE, Bool.and_eq_true] at h
      exact ⟨x, y, [], p, rfl, h.1, .inl ⟨rfl, h.2⟩⟩
    | .Or, x :: y :: z :: t, h =>
      simp only [isE, Bool.and_eq_true] at h
      exact ⟨x, y, z :: t, p, rfl, h.1, .inr ⟨z, t, rfl, h.2⟩⟩
    | .Or, [], h => simp [isE] at h
    | .Or, [_], h => simp [isE] at h
    | .And, _, h => simp [isE] at h
  | _ => simp [isE] at h
theorem inv_tup {xs} (h : isE N S sc (.tup xs) e = true) : ∃ es k p, e = .Tuple es k p ∧ isEs N S sc xs es = true := by
  cases e with
  | Tuple es k p =>
    simp only [isE] at h
    exact ⟨es, k, p, rfl, h⟩
  | _ => simp [isE] at h
theorem inv_lst {xs} (h : isE N S sc (.lst xs) e = true) : ∃ es p, e = .List es p ∧ isEs N S sc xs es = true := by
  cases e with
  | List es p =>
    simp only [isE] at h
    exact ⟨es, p, rfl, h⟩
  | _ => simp [isE] at h
theorem inv_call {f xs ds} (h : isE N S sc (.call f xs ds) e = true) : ∃ p2 es p, e = .Call (.Name (Str.ofString f) p2) es [] p ∧ glB sc (Str.ofString f) = true ∧ (Str.ofString f == ("__debug__" : Str)) = false ∧ isEs N S sc xs es = true ∧ S.call f xs.length ds = true := by
  cases e with
  | Call fn es ks p =>
    cases fn with
    | Name x p2 =>
      cases ks with
      | nil =>
        simp only [isE, Bool.and_eq_true, decide_eq_true_eq, bne_iff_ne, ne_eq] at h
        obtain ⟨⟨⟨⟨a, b⟩, c⟩, d⟩, g⟩ := h
        subst a
        exact ⟨p2, es, p, rfl, b, by simpa using c, d, g⟩
      | cons _ _ => simp [isE] at h
    | _ => simp [isE] at h
  | _ => simp [isE] at h
theorem inv_calk {f xs ks zs ds} (h : isE N S sc (.calk f xs ks zs ds) e = true) : ∃ p2 es kws p, e = .Call (.Name (Str.ofString f) p2) es kws p ∧ glB sc (Str.ofString f) = true ∧ (Str.ofString f == ("__debug__" : Str)) = false ∧ isEs N S sc xs es = true ∧ isKs N S sc ks zs kws = true ∧ S.calk f xs.length ks ds = true := by
  cases e with
  | Call fn es kws p =>
    cases fn with
    | Name x p2 =>
      simp only [isE, Bool.and_eq_true, decide_eq_true_eq, bne_iff_ne, ne_eq] at h
      obtain ⟨⟨⟨⟨⟨a, b⟩, c⟩, d⟩, d2⟩, g⟩ := h
      subst a
      exact ⟨p2, es, kws, p, rfl, b, by simpa using c, d, d2, g⟩
    | _ => simp [isE] at h
  | _ => simp [isE] at h
theorem len_ks : ∀ {ks : List String} {zs : List Ex} {kws : List Keyword}, isKs N S sc ks zs kws = true → ∀ (pos : Pos) env, zs.length = ks.length ∧ (backToKw pos (keywordEach kws env)).all (·.1.isSome) = true ∧ (backToKw pos (keywordEach kws env)).filterMap (·.1) = ks.map Str.ofString ∧ (backToKw pos (keywordEach kws env)).any (·.1.isNone) = false
  | [], [], [], h, pos, env => ⟨rfl, rfl, rfl, rfl⟩
  | k :: ks, z :: zs, ⟨some n, v, q⟩ :: kws, h, pos, env => by
    simp only [isKs, Bool.and_eq_true, decide_eq_true_eq] at h
    obtain ⟨h1, h2, h3, h4⟩ := len_ks h.2 pos env
    obtain ⟨⟨hk, _⟩, _⟩ := h
    subst hk
    refine ⟨by rw [List.length_cons, List.length_cons, h1], ?_, ?_, ?_⟩
    · show (true && (backToKw pos (keywordEach kws env)).all (·.1.isSome)) = true
      rw [h2]; rfl
    · show Str.ofString k :: (backToKw pos (keywordEach kws env)).filterMap (·.1) = _
      rw [h3]; rfl
    · show (false || (backToKw pos (keywordEach kws env)).any (·.1.isNone)) = false
      rw [h4]; rfl
  | [], _ :: _, _, h, _, _ => by simp [isKs] at h
  | [], [], _ :: _, h, _, _ => by simp [isKs] at h
  | _ :: _, [], _, h, _, _ => by simp [isKs] at h
  | _ :: _, _ :: _, [], h, _, _ => by simp [isKs] at h
  | _ :: _, _ :: _, ⟨none, _, _⟩ :: _, h, _, _ => by simp [isKs] at h
theorem inv_new {f xs ds} (h : isE N S sc (.new f xs ds) e = true) : ∃ p2 es p, e = .Call (.Name (Str.ofString f) p2) es [] p ∧ glB sc (Str.ofString f) = true ∧ (Str.ofString f == ("__debug__" : Str)) = false ∧ isEs N S sc xs es = true ∧ S.new f xs.length ds = true := by
  cases e with
  | Call fn es ks p =>
    cases fn with
    | Name x p2 =>
      cases ks with
      | nil =>
        simp only [isE, Bool.and_eq_true, decide_eq_true_eq, bne_iff_ne, ne_eq] at h
        obtain ⟨⟨⟨⟨a, b⟩, c⟩, d⟩, g⟩ := h
        subst a
        exact ⟨p2, es, p, rfl, b, by simpa using c, d, g⟩
      | cons _ _ => simp [isE] at h
    | _ => simp [isE] at h
  | _ => simp [isE] at h
theorem inv_blt {f xs} (h : isE N S sc (.blt f xs) e = true) : ∃ p2 es p, e = .Call (.Name (Str.ofString f) p2) es [] p ∧ glB sc (Str.ofString f) = true ∧ f ∈ (["len", "abs", "min", "max", "int", "list", "tuple", "any", "all", "sum", "sorted"] : List String) ∧ isEs N S sc xs es = true ∧ 0 < xs.length := by
  cases e with
  | Call fn es ks p =>
    cases fn with
    | Name x p2 =>
      cases ks with
      | nil =>
        simp only [isE, Bool.and_eq_true, decide_eq_true_eq, List.contains_iff_mem] at h
        obtain ⟨⟨⟨⟨a, b⟩, c⟩, d⟩, g⟩ := h
        subst a
        exact ⟨p2, es, p, rfl, b, c, d, g⟩
      | cons _ _ => simp [isE] at h
    | _ => simp [isE] at h
  | _ => simp [isE] at h
theorem inv_isi {a ts} (h : isE N S sc (.isi a ts) e = true) : ∃ t p2 l p3 p, ts = [t] ∧ e = .Call (.Name (Str.ofString "isinstance") p2) [l, .Name (Str.ofString t) p3] [] p ∧ glB sc (Str.ofString "isinstance") = true ∧ glB sc (Str.ofString t) = true ∧ t ∈ (["int", "bool", "str", "list", "tuple", "dict"] : List String) ∧ isE N S sc a l = true := by
  match ts, h with
  | [], h => simp [isE] at h
  | _ :: _ :: _, h => simp [isE] at h
  | [t], h =>
    cases e with
    | Call fn es ks p =>
      cases fn with
      | Name x p2 =>
        match es, ks, h with
        | [l, l2], [], h =>
          cases l2 with
          | Name y p3 =>
            simp only [isE, Bool.and_eq_true, decide_eq_true_eq, List.contains_iff_mem] at h
            obtain ⟨⟨⟨⟨⟨a1, b⟩, c⟩, d⟩, g⟩, k⟩ := h
            subst a1; subst c
            exact ⟨t, p2, l, p3, p, rfl, rfl, b, d, g, k⟩
          | _ => simp [isE] at h
        | _, _ :: _, h => simp [isE] at h
        | [], [], h => simp [isE] at h
        | [_], [], h => simp [isE] at h
        | _ :: _ :: _ :: _, [], h => simp [isE] at h
      | _ => simp [isE] at h
    | _ => simp [isE] at h
theorem inv_fld {a f} (h : isE N S sc (.fld a f) e = true) : ∃ o p, e = .Attribute o (Str.ofString f) p ∧ baseB o = true ∧ S.fld f = true ∧ isE N S sc a o = true := by
  cases e with
  | Attribute o g p =>
    simp only [isE, Bool.and_eq_true, decide_eq_true_eq] at h
    obtain ⟨⟨⟨a1, b⟩, c⟩, d⟩ := h
    subst a1
    exact ⟨o, p, rfl, b, c, d⟩
  | _ => simp [isE] at h
theorem inv_mth {a m xs ds} (h : isE N S sc (.mth a m xs ds) e = true) : ∃ o ap es p, e = .Call (.Attribute o (Str.ofString m) ap) es [] p ∧ baseB o = true ∧ isE N S sc a o = true ∧ isEs N S sc xs es = true ∧ xs.length < 20 ∧ (ap.endLine == p.line) = true ∧ S.mth m xs.length ds = true := by
  cases e with
  | Call fn es ks p =>
    cases fn with
    | Attribute o g ap =>
      cases ks with
      | nil =>
        simp only [isE, Bool.and_eq_true, decide_eq_true_eq] at h
        obtain ⟨⟨⟨⟨⟨⟨a1, b⟩, c⟩, d⟩, g1⟩, g2⟩, g3⟩ := h
        subst a1
        exact ⟨o, ap, es, p, rfl, b, c, d, g1, g2, g3⟩
      | cons _ _ => simp [isE] at h
    | _ => simp [isE] at h
  | _ => simp [isE] at h
theorem inv_idx {a i} (h : isE N S sc (.idx a i) e = true) : ∃ o k p, e = .Subscript o k p ∧ isE N S sc a o = true ∧ isE N S sc i k = true ∧ (∀ l u s q, k ≠ .Slice l u s q) := by
  cases e with
  | Subscript o k p =>
    simp only [isE, Bool.and_eq_true] at h
    refine ⟨o, k, p, rfl, h.1.1, h.1.2, fun l u s q z => ?_⟩
    subst z
    simp at h
  | _ => simp [isE] at h
theorem inv_slc {a lo hi} (h : isE N S sc (.slc a lo hi) e = true) : ∃ o l u q p, e = .Subscript o (.Slice l u none q) p ∧ isE N S sc a o = true ∧ isO N S sc lo l = true ∧ isO N S sc hi u = true := by
  cases e with
  | Subscript o k p =>
    cases k with
    | Slice l u st q =>
      cases st with
      | none =>
        simp only [isE, Bool.and_eq_true] at h
        exact ⟨o, l, u, q, p, rfl, h.1.1, h.1.2, h.2⟩
      | some _ => simp [isE] at h
    | _ => simp [isE] at h
  | _ => simp [isE] at h
theorem inv_dic {ks vs} (h : isE N S sc (.dic ks vs) e = true) : False := by cases e <;> simp [isE] at h
theorem inv_cpr {elt tg src cond own} (h : isE N S sc (.cpr elt tg src cond own) e = true) : ∃ el t i ifs scope p, e = .ListComp el [⟨t, i, ifs, 0⟩] scope p ∧ isI N S sc t src i = true ∧ isG N S (relS scope sc) scope tg t = true ∧ isE N S (relS scope sc) elt el = true ∧
    isC N S (relS scope sc) cond ifs = true ∧ blkC N sc scope (own.map fun i => (N.getD i Str.empty, i)) = true ∧ (∀ i ∈ tgN tg, i ∈ own) := by
  cases e with
  | ListComp el gs scope p =>
    match gs, h with
    | [], h => simp [isE] at h
    | _ :: _ :: _, h => simp [isE] at h
    | [⟨t, i, ifs, as⟩], h =>
      by_cases ha : as = 0
      · subst ha
        simp only [isE, Bool.and_eq_true, List.all_eq_true, List.contains_iff_mem] at h
        obtain ⟨⟨⟨⟨⟨a1, a2⟩, a3⟩, a4⟩, a5⟩, a6⟩ := h
        exact ⟨el, t, i, ifs, scope, p, rfl, a1, a2, a3, a4, a5, a6⟩
      · simp [isE, ha] at h
  | _ => simp [isE] at h
theorem inv_cpr2 {elt tg src cond tg1 src1 cond1 own own1} (h : isE N S sc (.cpr2 elt tg src cond tg1 src1 cond1 own own1) e = true) : ∃ el t i ifs t1 i1 ifs1 scope p, e = .ListComp el [⟨t, i, ifs, 0⟩, ⟨t1, i1, ifs1, 0⟩] scope p ∧ isI N S sc t src i = true ∧ isG N S (relS scope sc) scope tg t = true ∧
    isC N S (relS scope sc) cond ifs = true ∧ isI N S (relS scope sc) t1 src1 i1 = true ∧ isG N S (relS scope sc) scope tg1 t1 = true ∧ isC N S (relS scope sc) cond1 ifs1 = true ∧ isE N S (relS scope sc) elt el = true ∧
    blkC N sc scope (own.map fun i => (N.getD i Str.empty, i)) = true ∧ (∀ i ∈ tgN tg, i ∈ own) ∧ (∀ i ∈ tgN tg1, i ∈ own1) ∧ (∀ i ∈ own1, i ∈ own) := by
  cases e with
  | ListComp el gs scope p =>
    match gs, h with
    | [], h => simp [isE] at h
    | [_], h => simp [isE] at h
    | _ :: _ :: _ :: _, h => simp [isE] at h
    | [⟨t, i, ifs, as⟩, ⟨t1, i1, ifs1, as1⟩], h =>
      by_cases ha : as = 0
      · subst ha
        by_cases ha1 : as1 = 0
        · subst ha1
          simp only [isE, Bool.and_eq_true, List.all_eq_true, List.contains_iff_mem] at h
          obtain ⟨⟨⟨⟨⟨⟨⟨⟨⟨⟨a1, a2⟩, a3⟩, a4⟩, a5⟩, a6⟩, a7⟩, a8⟩, a9⟩, a10⟩, a11⟩ := h
          exact ⟨el, t, i, ifs, t1, i1, ifs1, scope, p, rfl, a1, a2, a3, a4, a5, a6, a7, a8, a9, a10, a11⟩
        · simp [isE, ha1] at h
      · simp [isE, ha] at h
  | _ => simp [isE] at h
theorem inv_scl {c m xs ds} (h : isE N S sc (.scl c m xs ds) e = true) : ∃ np ap es p, e = .Call (.Attribute (.Name (Str.ofString c) np) (Str.ofString m) ap) es [] p ∧ glB sc (Str.ofString c) = true ∧ (Str.ofString c == ("__debug__" : Str)) = false ∧
    baseB (.Name (Str.ofString c) np) = true ∧ isEs N S sc xs es = true ∧ xs.length < 20 ∧ (ap.endLine == p.line) = true ∧ S.scl c m xs.length ds = true := by
  cases e with
  | Call fn es ks p =>
    cases fn with
    | Attribute o g ap =>
      cases o with
      | Name x np =>
        cases ks with
        | nil =>
          simp only [isE, Bool.and_eq_true, decide_eq_true_eq, bne_iff_ne, ne_eq] at h
          obtain ⟨⟨⟨⟨⟨⟨⟨⟨a, b⟩, c⟩, d⟩, f⟩, g⟩, i⟩, j⟩, k⟩ := h
          subst a; subst d
          exact ⟨np, ap, es, p, rfl, b, by simpa using c, f, g, i, j, k⟩
        | cons _ _ => simp [isE] at h
      | _ => simp [isE] at h
    | _ => simp [isE] at h
  | _ => simp [isE] at h
theorem inv_frz {a} (h : isE N S sc (.frz a) e = true) : isE N S sc a e = true := by
  cases e <;> simpa only [isE] using h
theorem no_star {v : Expr} {p : Pos} : ∀ (E : Ex), isE N S sc E (.Starred v p) = true → False
  | .frz a, h => no_star a (inv_frz h)
  | .con v, h => by cases v <;> simp [isE] at h
  | .isi a ts, h => by
    obtain ⟨_, _, _, _, _, _, z, _⟩ := inv_isi h
    cases z
  | .var _, h | .glo _, h | .bin _ _ _, h | .neg _, h | .cmp _ _ _, h | .chn _ _ _ _ _, h | .ite _ _ _, h | .and _ _, h | .or _ _, h | .not _, h | .tup _, h | .lst _, h | .dic _ _, h | .call _ _ _, h | .calk _ _ _ _ _, h | .new _ _ _, h | .blt _ _, h
  | .fld _ _, h | .mth _ _ _ _, h | .idx _ _, h | .slc _ _ _, h | .cpr _ _ _ _ _, h | .cpr2 _ _ _ _ _ _ _ _ _, h | .scl _ _ _ _, h => by simp [isE] at h
theorem no_set {v : List Expr} {b c} : ∀ (E : Ex), isE N S sc E (.Set v b c) = true → False
  | .frz a, h => no_set a (inv_frz h)
  | .con v, h => by cases v <;> simp [isE] at h
  | .isi a ts, h => by
    obtain ⟨_, _, _, _, _, _, z, _⟩ := inv_isi h
    cases z
  | .var _, h | .glo _, h | .bin _ _ _, h | .neg _, h | .cmp _ _ _, h | .chn _ _ _ _ _, h | .ite _ _ _, h | .and _ _, h | .or _ _, h | .not _, h | .tup _, h | .lst _, h | .dic _ _, h | .call _ _ _, h | .calk _ _ _ _ _, h | .new _ _ _, h | .blt _ _, h
  | .fld _ _, h | .mth _ _ _ _, h | .idx _ _, h | .slc _ _ _, h | .cpr _ _ _ _ _, h | .cpr2 _ _ _ _ _ _ _ _ _, h | .scl _ _ _ _, h => by simp [isE] at h
/-- no star among them -/
theorem inv_star {E : Ex} (h : isE N S sc E e = true) : ∀ es env, starEach (e :: es) env = (false, eval e env) :: starEach es env := by
  intro es env
  cases e with
  | Starred v p => exact (no_star E h).elim
  | _ => rfl
theorem plain_es : ∀ {xs : List Ex} {es : List Expr}, isEs N S sc xs es = true → ∀ (pos : Pos) env, (backTo pos (starEach es env)).any (·.1) = false
  | [], es, h, pos, env => by
    cases es with
    | nil => rfl
    | cons _ _ => simp [isEs] at h
  | x :: xs, es, h, pos, env => by
    cases es with
    | nil => simp [isEs] at h
    | cons e es =>
      simp only [isEs, Bool.and_eq_true] at h
      rw [inv_star h.1]
      show (false || (backTo pos (starEach es env)).any (·.1)) = false
      rw [plain_es h.2]
      rfl
theorem len_es : ∀ {xs : List Ex} {es : List Expr}, isEs N S sc xs es = true → es.length = xs.length
  | [], es, h => by
    cases es with
    | nil => rfl
    | cons _ _ => simp [isEs] at h
  | x :: xs, es, h => by
    cases es with
    | nil => simp [isEs] at h
    | cons e es =>
      simp only [isEs, Bool.and_eq_true] at h
      rw [List.length_cons, List.length_cons, len_es h.2]
theorem vis_of {x : Str} (h : visB sc x = true) : Vis sc x := by
  unfold visB at h
  split at h
  · rename_i q; exact .inl q
  · rename_i q; exact .inr (.inl q)
  · rename_i q; exact .inr (.inr q)
  · cases h
theorem loc_of {x : Str} (h : locB sc x = true) : Loc sc x := by
  unfold locB at h
  split at h
  · rename_i q; exact .inl q
  · rename_i q; exact .inr q
  · cases h
theorem gl_of {X : Cx} (hs : X.env.scope = sc) {x : Str} (h : glB sc x = true) : Gl X x := by
  unfold glB at h
  split at h
  · rename_i q
    show X.env.scope.names.lookup x = _
    rw [hs]; exact q
  · cases h
theorem base_of {o : Expr} {f : Str} {env : Env} (h : baseB o = true) : attributeBase o f env (eval o env) = eval o env := by
  unfold attributeBase
  split
  · rename_i id p q
    simp only [baseB, bne_iff_ne, ne_eq] at h
    simp [h]
  · rfl
end
end G
set_option Elab.async false
set_option linter.all false
set_option maxRecDepth 100000
set_option maxHeartbeats 4000000
/-! G5: operators, comparisons, built-in calls by values. -/
namespace G
open PySem PySem.Spec PyProof.Rows L2
theorem ofS_inj {a b : String} : Str.ofString a = Str.ofString b ↔ a = b := by
  constructor
  · intro h
    rw [Str.ofString_eq_toList, Str.ofString_eq_toList] at h
    injection h with h
    have h := congrArg Array.toList h
    simp only at h
    have h2 : a.toList = b.toList := by
      have inj : Function.Injective Char.toNat := fun c d e => Char.ext (UInt32.toNat_inj.mp e)
      exact (List.map_inj_right (f := Char.toNat) inj).mp h
    exact String.toList_inj.mp h2
  · intro h; rw [h]
theorem ofS_len (a : String) : (Str.ofString a).length = a.length := by
  rw [Str.ofString_eq_toList]
  show (List.map Char.toNat a.toList).toArray.size = _
  simp [String.length_toList]
theorem ofS_app (a b : String) : Str.ofString a ++ Str.ofString b = Str.ofString (a ++ b) := by
  rw [Str.ofString_eq_toList, Str.ofString_eq_toList, Str.ofString_eq_toList]
  show Str.append _ _ = _
  unfold Str.append
  simp
theorem ofS_ok (a : String) : PyData.strOk (Str.ofString a) = true := by
  rw [Str.ofString_eq_toList]
  unfold PyData.strOk
  rw [← Array.all_toList]
  simp only [List.all_map, List.all_eq_true]
  intro c _
  have := c.valid
  simp only [Function.comp, decide_eq_true_eq]
  simp only [UInt32.isValidChar, Nat.isValidChar] at this
  have e : c.toNat = c.val.toNat := rfl
  omega
theorem big_line : big ≤ sizeLine := by rw [sizeLine_eq]; decide
theorem le_line {n : Nat} (h : n ≤ big) : n ≤ sizeLine := Nat.le_trans h big_line
theorem lt_line {n : Nat} (h : n < big) : n < sizeLine := Nat.lt_of_lt_of_le h big_line

mutual
def cvD : D → PyData
  | .non => .none
  | .bl b => .bool b
  | .int i => .int i
  | .str x => .str (Str.ofString x)
  | .tup xs => .tuple (cvDs xs)
  | .lst xs => .list (cvDs xs)
def cvDs : List D → List PyData
  | [] => []
  | x :: r => cvD x :: cvDs r
end
mutual
theorem cvD_eq : ∀ d e : D, PyData.eqv (cvD d) (cvD e) = eqD d e
  | .non, e => by cases e <;> simp [cvD, eqD, PyData.eqv]
  | .bl b, e => by cases e <;> simp [cvD, eqD, PyData.eqv]
  | .int i, e => by cases e <;> simp [cvD, eqD, PyData.eqv]
  | .str x, e => by
    cases e <;> simp [cvD, eqD, PyData.eqv]
    rw [Bool.eq_iff_iff]
    simp [ofS_inj]
  | .tup xs, e => by cases e <;> simp [cvD, eqD, PyData.eqv, cvDs_eq]
  | .lst xs, e => by cases e <;> simp [cvD, eqD, PyData.eqv, cvDs_eq]
theorem cvDs_eq : ∀ d e : List D, PyData.eqvAll (cvDs d) (cvDs e) = eqDs d e
  | [], e => by cases e <;> simp [cvDs, eqDs, PyData.eqvAll]
  | x :: r, e => by cases e <;> simp [cvDs, eqDs, PyData.eqvAll, cvD_eq, cvDs_eq]
end
mutual
theorem cvD_lay : ∀ d : D, (cvD d).canLay0 = true
  | .non => by simp [cvD, PyData.canLay0]
  | .bl b => by simp [cvD, PyData.canLay0]
  | .int i => by simp [cvD, PyData.canLay0]
  | .str x => by simp [cvD, PyData.canLay0, ofS_ok]
  | .tup xs => by simp [cvD, PyData.canLay0, cvDs_lay]
  | .lst xs => by simp [cvD, PyData.canLay0, cvDs_lay]
theorem cvDs_lay : ∀ d : List D, PyData.canLayAll0 (cvDs d) = true
  | [] => by simp [cvDs, PyData.canLayAll0]
  | x :: r => by simp [cvDs, PyData.canLayAll0, cvD_lay, cvDs_lay]
end
section
variable {K : PySem.W.Frag} {cl : CA} {ρ : List Addr} {H : Hp} {L : LH}
mutual
theorem toD_dp (em : Em K cl ρ L H) : ∀ (n : Nat) {x : LV} {x' : V} {d : D}, RV K cl ρ H x x' → toD n L x = some d → Dp K H x' (cvD d) ∧ (cvD d).depth ≤ n
  | n, .non, x', d, r, h => by
    cases n <;> (simp only [toD] at h; cases h; cases r; exact ⟨.non, Nat.zero_le _⟩)
  | n, .bl b, x', d, r, h => by cases n <;> (simp only [toD] at h; cases h; cases r; exact ⟨.bl _, Nat.zero_le _⟩)
  | n, .int b, x', d, r, h => by cases n <;> (simp only [toD] at h; cases h; cases r; exact ⟨.int _, Nat.zero_le _⟩)
  | n, .str b, x', d, r, h => by cases n <;> (simp only [toD] at h; cases h; cases r; exact ⟨.str _, Nat.zero_le _⟩)
  | 0, .tup xs, x', d, r, h => by simp [toD] at h
  | 0, .fl xs, x', d, r, h => by simp [toD] at h
  | 0, .ob _ _ xs, x', d, r, h => by simp [toD] at h
  | n + 1, .ob _ _ xs, x', d, r, h => by simp [toD] at h
  | 0, .ref i, x', d, r, h => by simp [toD] at h
  | n + 1, .tup xs, x', d, r, h => by
    simp only [toD, Option.map_eq_some_iff] at h
    obtain ⟨ds, h1, rfl⟩ := h
    obtain ⟨a, ys, rfl, sq, rs⟩ := r
    obtain ⟨p, q⟩ := toDs_dp em n rs h1
    refine ⟨.tup sq p, ?_⟩
    simp only [cvD, PyData.depth]
    omega
  | n + 1, .fl xs, x', d, r, h => by
    simp only [toD, Option.map_eq_some_iff] at h
    obtain ⟨ds, h1, rfl⟩ := h
    obtain ⟨a, ys, rfl, sq, rs⟩ := r
    obtain ⟨p, q⟩ := toDs_dp em n rs h1
    refine ⟨.lst sq.sq p, ?_⟩
    simp only [cvD, PyData.depth]
    omega
  | n + 1, .ref i, x', d, r, h => by
    simp only [toD] at h
    split at h
    · rename_i xs hL
      simp only [Option.map_eq_some_iff] at h
      obtain ⟨ds, h1, rfl⟩ := h
      obtain ⟨a, rfl, ha⟩ := r
      obtain ⟨ys, hH, rs⟩ := em.obj i _ a hL ha
      obtain ⟨p, q⟩ := toDs_dp em n rs h1
      refine ⟨.lst (SqL.of hH) p, ?_⟩
      simp only [cvD, PyData.depth]
      omega
    · cases h
termination_by n x => (n, 0, 0)
theorem toDs_dp (em : Em K cl ρ L H) : ∀ (n : Nat) {xs : List LV} {ys : List V} {ds : List D}, RVs K cl ρ H xs ys → toDs n L xs = some ds → DpAll K H ys (cvDs ds) ∧ PyData.depthAll (cvDs ds) ≤ n
  | n, [], ys, ds, r, h => by
    simp only [toDs] at h
    cases h
    rw [show ys = [] from r]
    exact ⟨.nil, Nat.zero_le _⟩
  | n, x :: xs, ys, ds, r, h => by
    obtain ⟨y, r', rfl, h1, h2⟩ := r
    simp only [toDs, Option.bind_eq_some_iff, Option.map_eq_some_iff] at h
    obtain ⟨d, e1, dr, e2, rfl⟩ := h
    obtain ⟨p1, q1⟩ := toD_dp em n h1 e1
    obtain ⟨p2, q2⟩ := toDs_dp em n h2 e2
    refine ⟨.cons p1 p2, ?_⟩
    simp only [cvDs, PyData.depthAll]
    omega
termination_by n xs => (n, 1, xs.length)
end
theorem toD_shaped (em : Em K cl ρ L H) {x : LV} {x' : V} {d : D} (r : RV K cl ρ H x x') (h : toD 60 L x = some d) : Dp K H x' (cvD d) ∧ SeqAt.shaped (cvD d) = true := by
  obtain ⟨p, q⟩ := toD_dp em 60 r h
  refine ⟨p, ?_⟩
  unfold SeqAt.shaped
  rw [cvD_lay, Bool.true_and, decide_eq_true_eq]
  omega
theorem seqAt_sq (em : Em K cl ρ L H) {x : LV} {x' : V} {xs : List LV} (r : RV K cl ρ H x x') (h : seqAt L x = some xs) : ∃ a ys, x' = .ref a ∧ (SqL K H a ys ∨ SqT K H a ys) ∧ RVs K cl ρ H xs ys := by
  cases x with
  | tup zs =>
    cases h
    obtain ⟨a, ys, rfl, sq, rs⟩ := r
    exact ⟨a, ys, rfl, .inr sq, rs⟩
  | fl zs =>
    cases h
    obtain ⟨a, ys, rfl, sq, rs⟩ := r
    exact ⟨a, ys, rfl, .inl sq.sq, rs⟩
  | ref i =>
    simp only [seqAt] at h
    split at h
    · rename_i zs hL
      cases h
      obtain ⟨a, rfl, ha⟩ := r
      obtain ⟨ys, hH, rs⟩ := em.obj i _ a hL ha
      exact ⟨a, ys, rfl, .inl (SqL.of hH), rs⟩
    · cases h
  | _ => simp [seqAt] at h
theorem lstAt_sq (em : Em K cl ρ L H) {x : LV} {x' : V} {xs : List LV} (r : RV K cl ρ H x x') (h : lstAt L x = some xs) : ∃ a ys, x' = .ref a ∧ SqL K H a ys ∧ RVs K cl ρ H xs ys := by
  cases x with
  | fl zs =>
    cases h
    obtain ⟨a, ys, rfl, sq, rs⟩ := r
    exact ⟨a, ys, rfl, sq.sq, rs⟩
  | ref i =>
    simp only [lstAt] at h
    split at h
    · rename_i zs hL
      cases h
      obtain ⟨a, rfl, ha⟩ := r
      obtain ⟨ys, hH, rs⟩ := em.obj i _ a hL ha
      exact ⟨a, ys, rfl, SqL.of hH, rs⟩
    · cases h
  | _ => simp [lstAt] at h
theorem flat_rv {x : LV} {x' : V} (r : RV K cl ρ H x x') (h : flatL x = true) : flatV x' = true := by
  cases x <;> simp [flatL] at h <;> (cases r; rfl)
theorem eqL_rv {x y : LV} {x' y' : V} (r : RV K cl ρ H x x') (q : RV K cl ρ H y y') (h : flatL x = true) (h2 : flatL y = true) : eqV x' y' = eqL x y := by
  cases x <;> simp [flatL] at h <;> cases r <;> (cases y <;> simp [flatL] at h2 <;> cases q <;> try rfl)
  simp only [eqV, eqL]
  rw [Bool.eq_iff_iff]
  simp [ofS_inj]
theorem flats_rv : ∀ {xs : List LV} {ys : List V}, RVs K cl ρ H xs ys → xs.all flatL = true → ys.all flatV = true
  | [], ys, r, _ => by rw [show ys = [] from r]; rfl
  | x :: xs, ys, r, h => by
    obtain ⟨y, r', rfl, h1, h2⟩ := r
    simp only [List.all_cons, Bool.and_eq_true] at h ⊢
    exact ⟨flat_rv h1 h.1, flats_rv h2 h.2⟩
theorem anys_rv {x : LV} {x' : V} (r : RV K cl ρ H x x') (hx : flatL x = true) : ∀ {xs : List LV} {ys : List V}, RVs K cl ρ H xs ys → xs.all flatL = true → inV x' ys = xs.any fun y => eqL y x
  | [], ys, q, _ => by rw [show ys = [] from q]; rfl
  | z :: xs, ys, q, h => by
    obtain ⟨y, r', rfl, h1, h2⟩ := q
    simp only [List.all_cons, Bool.and_eq_true] at h
    have ih := anys_rv r hx h2 h.2
    unfold inV at ih ⊢
    rw [List.any_cons, List.any_cons, ih, eqL_rv h1 r h.1 hx]
theorem non_rv {x : LV} {x' : V} (r : RV K cl ρ H x x') : decide (x' = V.non) = decide (x = LV.non) := by
  cases x with
  | tup xs => obtain ⟨a, ys, rfl, _⟩ := r; rfl
  | fl xs => obtain ⟨a, ys, rfl, _⟩ := r; rfl
  | ob c ns xs => obtain ⟨a, _, _, _, rfl, _⟩ := r; rfl
  | ref i => obtain ⟨a, rfl, _⟩ := r; rfl
  | _ => cases r; rfl

mutual
theorem cvD_alike : ∀ d e : D, PySem.W.alike (cvD d) (cvD e) = alikeD d e
  | .non, e => by cases e <;> simp [cvD, alikeD, PySem.W.alike]
  | .bl b, e => by cases e <;> simp [cvD, alikeD, PySem.W.alike]
  | .int i, e => by cases e <;> simp [cvD, alikeD, PySem.W.alike]
  | .str x, e => by cases e <;> simp [cvD, alikeD, PySem.W.alike]
  | .tup xs, e => by cases e <;> simp [cvD, alikeD, PySem.W.alike, cvDs_alike]
  | .lst xs, e => by cases e <;> simp [cvD, alikeD, PySem.W.alike, cvDs_alike]
theorem cvDs_alike : ∀ d e : List D, PySem.W.alikeAll (cvDs d) (cvDs e) = alikeDs d e
  | [], e => by cases e <;> simp [cvDs, alikeDs, PySem.W.alikeAll]
  | x :: r, e => by cases e <;> simp [cvDs, alikeDs, PySem.W.alikeAll, cvD_alike, cvDs_alike]
end
mutual
theorem cvD_lt : ∀ d e : D, alikeD d e = true → PySem.W.dataLt (cvD d) (cvD e) = ltD d e
  | .non, e, h => by cases e <;> first | (simp [alikeD] at h; done) | simp [cvD, ltD, PySem.W.dataLt, PySem.W.keyToks, PyProof.Rows.lexLt]
  | .bl b, e, h => by
    cases e <;> first | (simp [alikeD] at h; done) | skip
    simp only [cvD, ltD, PySem.W.dataLt_bool]
    rename_i c
    cases b <;> cases c <;> rfl
  | .int i, e, h => by cases e <;> first | (simp [alikeD] at h; done) | simp only [cvD, ltD, PySem.W.dataLt_int]
  | .str x, e, h => by cases e <;> first | (simp [alikeD] at h; done) | simp only [cvD, ltD, PySem.W.dataLt_str, strLt]
  | .tup xs, e, h => by
    cases e <;> first | (simp [alikeD] at h; done) | skip
    simp only [alikeD] at h
    simp only [cvD, ltD, PySem.W.dataLt_tuple]
    exact cvDs_lt _ _ h
  | .lst xs, e, h => by
    cases e <;> first | (simp [alikeD] at h; done) | skip
    simp only [alikeD] at h
    simp only [cvD, ltD, PySem.W.dataLt_list]
    exact cvDs_lt _ _ h
theorem cvDs_lt : ∀ d e : List D, alikeDs d e = true → PyProof.Rows.lexLt PyProof.Rows.itemOrd (PySem.W.keyToksAll (cvDs d)) (PySem.W.keyToksAll (cvDs e)) = ltDs d e
  | [], [], _ => by simp [cvDs, ltDs, PySem.W.keyToksAll, PyProof.Rows.lex_irrefl]
  | [], y :: ys, _ => by
    simp only [cvDs, ltDs, PySem.W.keyToksAll]
    rw [PySem.W.lex_atom (by simp), PySem.W.lex_one]
    rfl
  | x :: xs, [], _ => by
    simp only [cvDs, ltDs, PySem.W.keyToksAll]
    rw [PySem.W.lex_atom (by simp), PySem.W.lex_one]
    rfl
  | x :: xs, y :: ys, h => by
    simp only [alikeDs, Bool.and_eq_true] at h
    have ha : PySem.W.alike (cvD x) (cvD y) = true := by rw [cvD_alike]; exact h.1
    simp only [cvDs, ltDs]
    rw [PySem.W.dataLt_cons ha, cvD_eq, cvDs_lt xs ys h.2, cvD_lt x y h.1]
end
theorem cvD_non {d : D} (h : nonD d = false) : cvD d ≠ .none := by
  cases d <;> simp [nonD, cvD] at h ⊢
/-- an order by data, the rule -/
def rOrd (K : PySem.W.Frag) (op : COp) : R2 := fun x y H Q => ∃ d e, Dp K H x (cvD d) ∧ Dp K H y (cvD e) ∧ alikeD d e = true ∧ nonD d = false ∧ (cvD d).depth ≤ 60 ∧ Q (.bl (match op with | .lt => ltD d e | .le => !ltD e d | .gt => ltD e d | _ => !ltD d e)) H
theorem alikeD_comm : ∀ d e : D, alikeD d e = alikeD e d := fun d e => by
  rw [← cvD_alike, ← cvD_alike, PySem.W.alike_comm]
theorem op_ord {X : Cx} (hu : X.A.units + 64 < cLine) {op : COp} {o : CmpOp} (ho : isCop op o = true) (h4 : op = .lt ∨ op = .le ∨ op = .gt ∨ op = .ge) : OpR X (compareOp o) (rOrd X.K op) := by
  intro pins s σ H x y v u Q I rx ry h
  obtain ⟨d, e, hd, he, ha, hn, hdep, q⟩ := h
  obtain ⟨as, r1⟩ := Dp.reads I _ x v hd rx
  obtain ⟨bs, r2⟩ := Dp.reads I _ y u he ry
  have ha' : PySem.W.alike (cvD d) (cvD e) = true := by rw [cvD_alike]; exact ha
  have hu' : X.A.units + min (cvD d).depth (cvD e).depth < cLine := by
    have : min (cvD d).depth (cvD e).depth ≤ (cvD d).depth := Nat.min_le_left _ _
    omega
  have l1 := cvD_lt d e ha
  have l2 := cvD_lt e d (by rw [alikeD_comm]; exact ha)
  rcases h4 with rfl | rfl | rfl | rfl <;> cases o <;> first | (exact absurd ho (by decide)) | skip
  · exact PySem.W.lt_data r1 r2 ha' (cvD_non hn) hu' ⟨.bl _, H, I, rfl, by rw [l1]; exact q⟩
  · exact PySem.W.le_data r1 r2 ha' (cvD_non hn) hu' ⟨.bl _, H, I, rfl, by rw [l2]; exact q⟩
  · exact PySem.W.gt_data r1 r2 ha' (cvD_non hn) hu' ⟨.bl _, H, I, rfl, by rw [l2]; exact q⟩
  · exact PySem.W.ge_data r1 r2 ha' (cvD_non hn) hu' ⟨.bl _, H, I, rfl, by rw [l1]; exact q⟩
/-- in, by data -/
def rInD (K : PySem.W.Frag) (neg : Bool) : R2 := fun x y H Q => ∃ d es, (Dp K H y (cvD (.lst es)) ∨ Dp K H y (cvD (.tup es))) ∧ Dp K H x (cvD d) ∧ (cvD d).depth ≤ 60 ∧ Q (.bl (if neg then !(es.any fun e => eqD e d) else es.any fun e => eqD e d)) H
theorem any_cv (d : D) : ∀ es : List D, ((cvDs es).any fun y => PyData.eqv y (cvD d)) = es.any fun e => eqD e d
  | [] => rfl
  | e :: r => by simp only [cvDs, List.any_cons, cvD_eq, any_cv d r]
theorem op_inD {X : Cx} (hu : X.A.units + 64 < cLine) : OpR X (compareOp .In) (rInD X.K false) := by
  intro pins s σ H x y v u Q I rx ry h
  obtain ⟨d, es, hc, hd, hdep, q⟩ := h
  obtain ⟨as, r1⟩ := Dp.reads I _ x v hd rx
  have hu' : X.A.units + 1 + min (PyData.depthAll (cvDs es)) (cvD d).depth < cLine := by
    have : min (PyData.depthAll (cvDs es)) (cvD d).depth ≤ (cvD d).depth := Nat.min_le_right _ _
    omega
  rcases hc with hc | hc
  · obtain ⟨bs, r2⟩ := Dp.reads I _ y u hc ry
    simp only [cvD] at r2
    exact SeqAt.in_list_reads r2 r1 (cvDs_lay es) (cvD_lay d) hu' ⟨.bl _, H, I, rfl, by rw [any_cv]; exact q⟩
  · obtain ⟨bs, r2⟩ := Dp.reads I _ y u hc ry
    simp only [cvD] at r2
    exact SeqAt.in_tuple_reads r2 r1 (cvDs_lay es) (cvD_lay d) hu' ⟨.bl _, H, I, rfl, by rw [any_cv]; exact q⟩
theorem op_ninD {X : Cx} (hu : X.A.units + 64 < cLine) : OpR X (compareOp .NotIn) (rInD X.K true) := by
  intro pins s σ H x y v u Q I rx ry h
  obtain ⟨d, es, hc, hd, hdep, q⟩ := h
  obtain ⟨as, r1⟩ := Dp.reads I _ x v hd rx
  have hu' : X.A.units + 1 + min (PyData.depthAll (cvDs es)) (cvD d).depth < cLine := by
    have : min (PyData.depthAll (cvDs es)) (cvD d).depth ≤ (cvD d).depth := Nat.min_le_right _ _
    omega
  rcases hc with hc | hc
  · obtain ⟨bs, r2⟩ := Dp.reads I _ y u hc ry
    simp only [cvD] at r2
    exact SeqAt.notIn_list_reads r2 r1 (cvDs_lay es) (cvD_lay d) hu' ⟨.bl _, H, I, rfl, by rw [any_cv]; exact q⟩
  · obtain ⟨bs, r2⟩ := Dp.reads I _ y u hc ry
    simp only [cvD] at r2
    exact SeqAt.notIn_tuple_reads r2 r1 (cvDs_lay es) (cvD_lay d) hu' ⟨.bl _, H, I, rfl, by rw [any_cv]; exact q⟩
/-- a comparison by values -/
theorem cmp_ok {X : Cx} (hK : X.K = K) (hu : X.A.units + 64 < cLine) (em : Em K cl ρ L H) {op : COp} {o : CmpOp} (ho : isCop op o = true) {x y : LV} {x' y' : V} {b : Bool} (rx : RV K cl ρ H x x') (ry : RV K cl ρ H y y') (h : cmpV op x y L = some b) :
    ∃ r, OpR X (compareOp o) r ∧ ∀ Q : VK, Q (.bl b) H → r x' y' H Q := by
  subst hK
  have ord_rule : ∀ {op : COp} {o : CmpOp}, isCop op o = true → (op = .lt ∨ op = .le ∨ op = .gt ∨ op = .ge) → ordD op x y L = some b → ∃ r, OpR X (compareOp o) r ∧ ∀ Q : VK, Q (.bl b) H → r x' y' H Q := by
    intro op o ho h4 h
    simp only [ordD] at h
    split at h
    · rename_i d e h1 h2
      split at h
      · rename_i hc
        cases h
        obtain ⟨p1, s1⟩ := toD_dp em 60 rx h1
        obtain ⟨p2, s2⟩ := toD_dp em 60 ry h2
        exact ⟨_, op_ord hu ho h4, fun Q q => ⟨d, e, p1, p2, hc.1, hc.2, s1, q⟩⟩
      · cases h
    · cases h
  cases op <;> (cases o <;> first | (exact absurd ho (by decide)) | skip)
  · simp only [cmpV] at h
    split at h
    · rename_i d e h1 h2
      cases h
      obtain ⟨p1, s1⟩ := toD_shaped em rx h1
      obtain ⟨p2, s2⟩ := toD_shaped em ry h2
      exact ⟨_, op_eqD hu, fun Q q => ⟨_, _, p1, p2, s1, s2, by rw [cvD_eq]; exact q⟩⟩
    · cases h
  · simp only [cmpV] at h
    split at h
    · rename_i d e h1 h2
      cases h
      obtain ⟨p1, s1⟩ := toD_shaped em rx h1
      obtain ⟨p2, s2⟩ := toD_shaped em ry h2
      exact ⟨_, op_neD hu, fun Q q => ⟨_, _, p1, p2, s1, s2, by rw [cvD_eq]; exact q⟩⟩
    · cases h
  · simp only [cmpV, ordV] at h
    split at h
    · cases h; cases rx; cases ry
      exact ⟨_, op_lt, fun Q q => ⟨_, _, rfl, rfl, q⟩⟩
    · exact ord_rule (op := .lt) (by decide) (by simp) h
  · simp only [cmpV, ordV] at h
    split at h
    · cases h; cases rx; cases ry
      exact ⟨_, op_le, fun Q q => ⟨_, _, rfl, rfl, q⟩⟩
    · exact ord_rule (op := .le) (by decide) (by simp) h
  · simp only [cmpV, ordV] at h
    split at h
    · cases h; cases rx; cases ry
      exact ⟨_, op_gt, fun Q q => ⟨_, _, rfl, rfl, q⟩⟩
    · exact ord_rule (op := .gt) (by decide) (by simp) h
  · simp only [cmpV, ordV] at h
    split at h
    · cases h; cases rx; cases ry
      exact ⟨_, op_ge, fun Q q => ⟨_, _, rfl, rfl, q⟩⟩
    · exact ord_rule (op := .ge) (by decide) (by simp) h
  · simp only [cmpV] at h
    split at h
    · cases h; cases ry
      exact ⟨_, op_isN, fun Q q => ⟨rfl, by rw [non_rv rx]; exact q⟩⟩
    · cases h
  · simp only [cmpV] at h
    split at h
    · cases h; cases ry
      exact ⟨_, op_notN, fun Q q => ⟨rfl, by rw [non_rv rx]; exact q⟩⟩
    · cases h
  · simp only [cmpV] at h
    split at h
    · rename_i ys hs
      split at h
      · rename_i hf
        cases h
        obtain ⟨a, zs, rfl, sq, rs⟩ := seqAt_sq em ry hs
        refine ⟨_, op_in_seq, fun Q q => ⟨a, zs, rfl, sq, flat_rv rx hf.1, flats_rv rs hf.2, ?_⟩⟩
        rw [if_neg Bool.false_ne_true, anys_rv rx hf.1 rs hf.2]
        exact q
      · simp only [inD] at h
        split at h
        · rename_i d es h1 h2
          cases h
          obtain ⟨p1, s1⟩ := toD_dp em 60 rx h1
          obtain ⟨p2, s2⟩ := toD_dp em 60 ry h2
          exact ⟨_, op_inD hu, fun Q q => ⟨d, es, .inl p2, p1, s1, q⟩⟩
        · rename_i d es h1 h2
          cases h
          obtain ⟨p1, s1⟩ := toD_dp em 60 rx h1
          obtain ⟨p2, s2⟩ := toD_dp em 60 ry h2
          exact ⟨_, op_inD hu, fun Q q => ⟨d, es, .inr p2, p1, s1, q⟩⟩
        · cases h
    · cases h
  · simp only [cmpV] at h
    split at h
    · rename_i ys hs
      split at h
      · rename_i hf
        cases h
        obtain ⟨a, zs, rfl, sq, rs⟩ := seqAt_sq em ry hs
        refine ⟨_, op_notIn_seq, fun Q q => ⟨a, zs, rfl, sq, flat_rv rx hf.1, flats_rv rs hf.2, ?_⟩⟩
        rw [if_pos rfl, anys_rv rx hf.1 rs hf.2]
        exact q
      · obtain ⟨c, hc, hb⟩ := Option.map_eq_some_iff.mp h
        clear h
        subst hb
        simp only [inD] at hc
        split at hc
        · rename_i d es h1 h2
          cases hc
          obtain ⟨p1, s1⟩ := toD_dp em 60 rx h1
          obtain ⟨p2, s2⟩ := toD_dp em 60 ry h2
          exact ⟨_, op_ninD hu, fun Q q => ⟨d, es, .inl p2, p1, s1, q⟩⟩
        · rename_i d es h1 h2
          cases hc
          obtain ⟨p1, s1⟩ := toD_dp em 60 rx h1
          obtain ⟨p2, s2⟩ := toD_dp em 60 ry h2
          exact ⟨_, op_ninD hu, fun Q q => ⟨d, es, .inr p2, p1, s1, q⟩⟩
        · cases hc
    · cases h

theorem RVs.flat_rep {K : PySem.W.Frag} {ρ : List Addr} {H : Hp} {xs : List LV} {ys : List V} (r : RVs K cl ρ H xs ys) : ∀ k : Nat, RVs K cl ρ H (List.replicate k xs).flatten (List.replicate k ys).flatten
  | 0 => rfl
  | k + 1 => by
    rw [List.replicate_succ, List.replicate_succ, List.flatten_cons, List.flatten_cons]
    exact r.app (RVs.flat_rep r k)
/-- a new list -/
theorem new_lst (em : Em K cl ρ L H) {xs : List LV} {ys : List V} (rs : RVs K cl ρ H xs ys) {Q : VK} (h : Rd K cl ρ H (.ok (LV.ref L.length) (L ++ [.lst xs])) (RV K cl) Q) : ∀ p, H p = none → Q (.ref p) (upd H p (.lst ys)) := by
  intro p hp
  have nx0 : Nx ρ (ρ ++ [p]) H (upd H p (.lst ys)) := by
    have np : p ∉ ρ := em.notMemNone hp
    refine ⟨List.prefix_append _ _, fun a o' h n => ?_⟩
    have ne : a ≠ p := fun z => by rw [z, hp] at h; cases h
    refine ⟨by rw [upd_ne ne]; exact h, ?_⟩
    rw [List.mem_append, not_or]
    exact ⟨n, by simpa using ne⟩
  obtain ⟨em', nx⟩ := em.new (o := .lst xs) (u := .lst ys) hp rfl ⟨ys, upd_same, RVs.nx em nx0 rs⟩
  refine h.ok' nx em' ⟨p, rfl, ?_⟩
  rw [← em.len, List.getElem?_append_right (Nat.le_refl _), Nat.sub_self]
  rfl
/-- a new tuple -/
theorem new_tup (em : Em K cl ρ L H) {xs : List LV} {ys : List V} (rs : RVs K cl ρ H xs ys) {Q : VK} (h : Rd K cl ρ H (.ok (LV.tup xs) L) (RV K cl) Q) : ∀ p, H p = none → Q (.ref p) (upd H p (.tup ys)) := by
  intro p hp
  obtain ⟨em', nx⟩ := em.laid (u := .tup ys) hp
  exact h.ok' nx em' ⟨p, ys, rfl, SqT.of upd_same, RVs.nx em nx rs⟩

theorem lsx_get {X : Cx} {pins : List (Addr × Obj)} {σ : L2.St} {H : Hp} {s : Shared} (I : Inv X pins σ H s) {a : Addr} {ys : List V} (h : LsX X.K H a ys) : ys.length ≤ sizeLine ∧ ∃ (its : List Value) (n : Nat) (sl : Array (Option Value)), Vals ys its ∧ ys.length = its.length ∧ s.heap.get? a = some { cls := .type "list", dict := none, data := .seq its.toArray n, slots := sl } := by
  rcases h with h | ⟨o, h⟩ | ⟨its, n, sl, h1, h2, h3⟩
  · obtain ⟨z, its, n, r, hl, e⟩ := I.lstM h
    exact ⟨z, its, n, #[], r, hl, e⟩
  · have x : ObjOk X.prog X.w H s.heap a (.frz o (.lst ys)) := I.hok a _ h
    obtain ⟨h1, h2, its, n, h3, h4⟩ := x
    exact ⟨h2, its, n, #[], h3, h3.length, h4⟩
  · refine ⟨?_, its.toList, n, sl, h3, h3.length, ?_⟩
    · rw [h3.length]; simpa using h2
    · simpa using I.kIn _ _ h1
theorem list_add_gen (l : Addr) (items : Array Value) (n : Nat) (sl : Array (Option Value)) (b : Addr) (items2 : Array Value) (n2 : Nat) (sl2 : Array (Option Value)) (hc0 : items.size + items2.size ≤ sizeLine) :
    PySem.Meets (Builtin.«list.__add__» ⟨[.ref l, .ref b], []⟩) (fun _ R s => s.heap.get? l = some { cls := .type "list", dict := none, data := .seq items n, slots := sl } ∧ s.heap.get? b = some { cls := .type "list", dict := none, data := .seq items2 n2, slots := sl2 } ∧ R (.ok (.ret (Value.ref s.heap.objs.size))) { s with heap := s.heap.push { cls := Value.type "list", data := Data.seq (items ++ items2) }, toks := s.toks }) :=
  .of_wp fun prog w A R s h => by obtain ⟨hp, g, d, tk, os⟩ := s; obtain ⟨hl, hb, h⟩ := h; have f1 := AutoSeq1.idx_int; have f2 := AutoSeq1.sub_tuple_tuple; have f3 := AutoSeq1.sub_list_list; have f4 := AutoSeq1.sub_tuple_list; have f5 := AutoSeq1.sub_list_tuple; wp_walk using AutoSeq1.wpAny_loadPart' hl, AutoSeq1.wpAny_loadPart' hb; exact ⟨_, rfl, h⟩
/-- list + list, of any kind -/
def rCatX (K : PySem.W.Frag) : R2 := fun x y H Q => ∃ l b xs zs, x = .ref l ∧ y = .ref b ∧ LsX K H l xs ∧ LsX K H b zs ∧ xs.length + zs.length ≤ sizeLine ∧ ∀ p, H p = none → Q (.ref p) (upd H p (.lst (xs ++ zs)))
theorem op_catX {X : Cx} : OpR X (binaryOp .Add) (rCatX X.K) := by
  intro pins s σ H x y v u Q I rx ry h
  obtain ⟨l, b, xs, zs, rfl, rfl, hH, hB, hz, q⟩ := h
  cases rx
  cases ry
  obtain ⟨z, its, n, sl, r, hl, e⟩ := lsx_get I hH
  obtain ⟨z2, its2, n2, sl2, r2, hl2, e2⟩ := lsx_get I hB
  refine concat_meets ⟨_, e, rfl⟩ ⟨_, e2, rfl⟩ noFill_list_add seq_list_add F.slot_list_add F.entry_list_add (F.args_list_add_2 _ _) (list_add_gen l its.toArray n sl b its2.toArray n2 sl2 (by rw [List.size_toArray, List.size_toArray]; omega)) ⟨e, e2, ?_⟩
  have ea : its.toArray ++ its2.toArray = (its ++ its2).toArray := by simp
  rw [ea]
  exact ⟨.ref _, _, I.lnew (t' := s.toks) (r.append r2) (by rw [List.length_append]; omega), rfl, q _ I.fresh⟩
theorem int_rmul_gen (a : Int) (t : Tok) (l : Addr) (items : Array Value) (n : Nat) (sl : Array (Option Value)) :
    PySem.Meets (Builtin.«int.__rmul__» ⟨[.int a t, .ref l], []⟩) (fun _ R s => s.heap.get? l = some { cls := .type "list", dict := none, data := .seq items n, slots := sl } ∧ R (.ok (.ret Value.notImplemented)) s) :=
  .of_wp fun prog w A R s h => by obtain ⟨hp, g, d, tk, os⟩ := s; obtain ⟨hl, h⟩ := h; wp_walk; exact ⟨_, rfl, h⟩
theorem list_mul_gen (l : Addr) (items : Array Value) (n : Nat) (sl : Array (Option Value)) (x : Int) (u : Tok) (hc0 : ¬(!Builtin.List.listFitsIndex x) = true) (hc1 : ¬items.size * x.toNat > (2 ^ 63 - 1) / 8) (hc2 : ¬Builtin.List.listTooLong (items.size * x.toNat) = true) :
    PySem.Meets (Builtin.«list.__mul__» ⟨[.ref l, .int x u], []⟩) (fun _ R s => s.heap.get? l = some { cls := .type "list", dict := none, data := .seq items n, slots := sl } ∧ R (.ok (.ret (Value.ref s.heap.objs.size))) { s with heap := s.heap.push { cls := Value.type "list", data := Data.seq (List.foldl (fun x1 x2 => x1 ++ x2) #[] (List.replicate (if items.isEmpty = true then 0 else x.toNat) items)) }, toks := s.toks }) :=
  .of_wp fun prog w A R s h => by
    obtain ⟨hp, g, d, tk, os⟩ := s; obtain ⟨hl, h⟩ := h
    have hsz := AutoListH.joined_fits hc2
    wp_walk; refine wpAny_ite_false (decide_eq_false (Nat.not_lt.mpr hsz)) ?_; wp_walk; exact ⟨_, rfl, h⟩
def rRepX (K : PySem.W.Frag) : R2 := fun x y H Q => ∃ l k xs, x = .ref l ∧ y = .int k ∧ LsX K H l xs ∧ -(2 ^ 63) ≤ k ∧ k < 2 ^ 63 ∧ xs.length * k.toNat ≤ sizeLine ∧
  ∀ p, H p = none → Q (.ref p) (upd H p (.lst (List.replicate k.toNat xs).flatten))
theorem foldl_repX (its : List Value) : ∀ (m : Nat) (acc : List Value), List.foldl (fun (x1 x2 : Array Value) => x1 ++ x2) acc.toArray (List.replicate m its.toArray) = (acc ++ (List.replicate m its).flatten).toArray
  | 0, acc => by simp
  | m + 1, acc => by
    rw [List.replicate_succ, List.foldl_cons, List.replicate_succ, List.flatten_cons]
    have := foldl_repX its m (acc ++ its)
    simpa using this
theorem op_repX {X : Cx} : OpR X (binaryOp .Mult) (rRepX X.K) := by
  intro pins s σ H x y v u Q I rx ry h
  obtain ⟨l, k, xs, rfl, rfl, hH, h1, h2, hz, q⟩ := h
  cases rx
  obtain ⟨t, rfl⟩ := ry
  obtain ⟨z, its, n, sl, r, hl, e⟩ := lsx_get I hH
  have hlen : its.toArray.size * k.toNat ≤ sizeLine := by rw [List.size_toArray, ← hl]; exact hz
  have hcap : ¬ its.toArray.size * k.toNat > (2 ^ 63 - 1) / 8 := by
    have : (sizeLine : Nat) ≤ (2 ^ 63 - 1) / 8 := by decide
    omega
  have hfit : ¬ (!Builtin.List.listFitsIndex k) = true := by
    simp [Builtin.List.listFitsIndex]; omega
  have hlong : ¬ Builtin.List.listTooLong (its.toArray.size * k.toNat) = true := by
    simp [Builtin.List.listTooLong]
    simpa using hlen
  have hnew : List.foldl (fun x1 x2 => x1 ++ x2) #[] (List.replicate (if its.toArray.isEmpty = true then 0 else k.toNat) its.toArray) = (List.replicate k.toNat its).flatten.toArray := by
    have f0 : ∀ m : Nat, List.foldl (fun x1 x2 => x1 ++ x2) #[] (List.replicate m its.toArray) = (List.replicate m its).flatten.toArray := fun m => by
      have := foldl_repX its m []
      rw [List.nil_append] at this
      exact this
    rw [f0]
    cases its with
    | nil => simp
    | cons a r' => rw [if_neg (by simp)]
  refine wpAny_binaryOp_repeat_ref (T := "list") (U := "int") (by decide) ⟨_, e, rfl⟩ (fun s' => typeIs_int s' k t) noFill_list_mul F.fills_int_mul F.slot_int_rmul repeat_list F.slot_int_index.lookup
    (call_meets F.slot_int_rmul (typeIs_int s k t) F.entry_int_rmul (F.args_int_rmul_2 _ _) (int_rmul_gen k t l its.toArray n sl)
      ⟨e, rfl, ⟨_, e, rfl⟩, call_meets F.slot_list_mul ⟨_, e, rfl⟩ F.entry_list_mul (F.args_list_mul_2 _ _) (list_mul_gen l its.toArray n sl k t hfit hcap hlong) ⟨e, ?_⟩⟩)
  rw [hnew]
  exact ⟨.ref _, _, I.lnew (t' := s.toks) (r.rep k.toNat) (by rw [PyProof.Rows.lm_len_rep_flat, Nat.mul_comm]; exact hz), rfl, q _ I.fresh⟩
theorem lstAt_x {K : PySem.W.Frag} {cl : CA} {ρ : List Addr} {L : LH} {H : Hp} (em : Em K cl ρ L H) {x : LV} {x' : V} {xs : List LV} (r : RV K cl ρ H x x') (h : lstAt L x = some xs) : ∃ a ys, x' = .ref a ∧ LsX K H a ys ∧ RVs K cl ρ H xs ys := by
  cases x with
  | fl zs =>
    cases h
    obtain ⟨a, ys, rfl, sq, rs⟩ := r
    exact ⟨a, ys, rfl, sq.x, rs⟩
  | ref i =>
    simp only [lstAt] at h
    split at h
    · rename_i zs hL
      cases h
      obtain ⟨a, rfl, ha⟩ := r
      obtain ⟨ys, hH, rs⟩ := em.obj i _ a hL ha
      exact ⟨a, ys, rfl, .inl hH, rs⟩
    · cases h
  | _ => simp [lstAt] at h
/-- an operator by values -/
theorem bin_ok {X : Cx} (hK : X.K = K) (em : Em K cl ρ L H) {op : BOp} {o : Operator} (ho : isBop op o = true) {x y : LV} {x' y' : V} {Q : VK} (rx : RV K cl ρ H x x') (ry : RV K cl ρ H y y') (h : Rd K cl ρ H (binV op x y L) (RV K cl) Q) :
    ∃ r, OpR X (binaryOp o) r ∧ r x' y' H Q := by
  subst hK
  cases op <;> (cases o <;> first | (exact absurd ho (by decide)) | skip)
  · simp only [binV, addV] at h
    split at h
    · cases rx; cases ry
      exact ⟨_, op_add, _, _, rfl, rfl, h.ok em rfl⟩
    · split at h
      · rename_i hl
        cases rx; cases ry
        refine ⟨_, op_add_str, _, _, rfl, rfl, ?_, ?_⟩
        · rw [ofS_len, ofS_len]; exact le_line hl
        · rw [ofS_app]; exact h.ok em rfl
      · exact h.stuck.elim
    · split at h
      · rename_i hl
        obtain ⟨a, us, rfl, sq, r1⟩ := rx
        obtain ⟨b, ws, rfl, sq2, r2⟩ := ry
        refine ⟨_, op_catA, a, b, us, ws, rfl, rfl, sq, sq2, ?_, fun e => ?_, fun _ e => ?_, fun _ _ => new_tup em (r1.app r2) h⟩
        · rw [r1.len, r2.len]; exact le_line hl
        · subst e
          exact h.ok em ⟨b, ws, rfl, sq2, r1.app r2⟩
        · subst e
          have q := r1.app r2
          rw [List.append_nil] at q
          exact h.ok em ⟨a, us, rfl, sq, q⟩
      · exact h.stuck.elim
    · split at h
      · rename_i hi hj
        split at h
        · rename_i hl
          obtain ⟨a, us, rfl, h1, r1⟩ := lstAt_x em rx hi
          obtain ⟨b, ws, rfl, h2, r2⟩ := lstAt_x em ry hj
          refine ⟨_, op_catX, a, b, us, ws, rfl, rfl, h1, h2, ?_, new_lst em (r1.app r2) h⟩
          rw [r1.len, r2.len]; exact le_line hl
        · exact h.stuck.elim
      · exact h.stuck.elim
  · simp only [binV] at h
    split at h
    · cases rx; cases ry
      exact ⟨_, op_sub, _, _, rfl, rfl, h.ok em rfl⟩
    · exact h.stuck.elim
  · simp only [binV, mulV] at h
    split at h
    · split at h
      · rename_i hc
        cases rx; cases ry
        exact ⟨_, op_mul, _, _, rfl, rfl, hc, h.ok em rfl⟩
      · exact h.stuck.elim
    · split at h
      · rename_i hi
        split at h
        · rename_i hc
          obtain ⟨a, us, rfl, h1, r1⟩ := lstAt_x em rx hi
          cases ry
          refine ⟨_, op_repX, a, _, us, rfl, rfl, h1, by omega, hc.2.1, ?_, new_lst em (r1.flat_rep _) h⟩
          rw [r1.len]; exact le_line hc.2.2
        · exact h.stuck.elim
      · exact h.stuck.elim
    · exact h.stuck.elim
  · simp only [binV] at h
    split at h
    · split at h
      · rename_i hc
        cases rx; cases ry
        exact ⟨_, op_fdiv, _, _, rfl, rfl, hc, h.ok em rfl⟩
      · exact h.stuck.elim
    · exact h.stuck.elim
  · simp only [binV] at h
    split at h
    · split at h
      · rename_i hc
        cases rx; cases ry
        exact ⟨_, op_mod, _, _, rfl, rfl, hc, h.ok em rfl⟩
      · exact h.stuck.elim
    · exact h.stuck.elim
  · exact h.stuck.elim
end
end G
set_option Elab.async false
set_option linter.all false
set_option maxRecDepth 100000
set_option maxHeartbeats 4000000
/-! G6: built-in calls and methods by values. -/
namespace G
open PySem PySem.Spec PyProof.Rows L2
theorem boot_abs : bootBuiltins "abs" = some (.builtin "abs") := by decide +kernel
section
variable {K : PySem.W.Frag} {cl : CA} {ρ : List Addr} {H : Hp} {L : LH} {X : Cx}
theorem rvs1 {x : LV} {vs : List V} (r : RVs K cl ρ H [x] vs) : ∃ v, vs = [v] ∧ RV K cl ρ H x v := by
  obtain ⟨v, t, rfl, h, e⟩ := r
  rw [show t = [] from e]
  exact ⟨v, rfl, h⟩
theorem rvs2 {x y : LV} {vs : List V} (r : RVs K cl ρ H [x, y] vs) : ∃ v u, vs = [v, u] ∧ RV K cl ρ H x v ∧ RV K cl ρ H y u := by
  obtain ⟨v, t, rfl, h, e⟩ := r
  obtain ⟨u, rfl, h2⟩ := rvs1 e
  exact ⟨v, u, rfl, h, h2⟩
theorem rvs0 {vs : List V} (r : RVs K cl ρ H [] vs) : vs = [] := r
theorem len_ok (hK : X.K = K) (em : Em K cl ρ L H) {vs : List LV} {vs' : List V} {Q : VK} (r : RVs K cl ρ H vs vs') (h : Rd K cl ρ H (lenV vs L) (RV K cl) Q) :
    ∃ q, CallR X (.builtin "len") q ∧ q vs' H Q := by
  subst hK
  unfold lenV at h
  split at h
  · split at h
    · rename_i hl
      obtain ⟨v, rfl, rv⟩ := rvs1 r
      cases rv
      refine ⟨_, call_len_str, _, rfl, ?_, ?_⟩
      · rw [ofS_len]; exact le_line hl
      · rw [ofS_len]; exact h.ok em rfl
    · exact h.stuck.elim
  · split at h
    · rename_i hs
      obtain ⟨v, rfl, rv⟩ := rvs1 r
      obtain ⟨a, ys, rfl, sq, rs⟩ := seqAt_sq em rv hs
      refine ⟨_, call_len_seq, a, ys, rfl, sq, ?_⟩
      rw [rs.len]
      exact h.ok em rfl
    · exact h.stuck.elim
  · exact h.stuck.elim
theorem abs_ok (em : Em K cl ρ L H) {vs : List LV} {vs' : List V} {Q : VK} (r : RVs K cl ρ H vs vs') (h : Rd K cl ρ H (absV' vs L) (RV K cl) Q) :
    ∃ q, CallR X (.builtin "abs") q ∧ q vs' H Q := by
  unfold absV' at h
  split at h
  · obtain ⟨v, rfl, rv⟩ := rvs1 r
    cases rv
    exact ⟨_, call_abs, _, rfl, h.ok em rfl⟩
  · exact h.stuck.elim
theorem rvs_bools {K : PySem.W.Frag} {ρ : List Addr} {H : Hp} : ∀ {xs : List LV} {ys : List V} {bs : List Bool}, RVs K cl ρ H xs ys → boolsL xs = some bs → ys = bs.map V.bl
  | [], ys, bs, r, h => by
    rw [show ys = [] from r]
    simp [boolsL] at h
    subst h; rfl
  | x :: xs, ys, bs, r, h => by
    obtain ⟨y, t, rfl, h1, h2⟩ := r
    cases x with
    | bl b =>
      simp only [boolsL] at h
      obtain ⟨cs, hc, rfl⟩ := Option.map_eq_some_iff.mp h
      cases h1
      rw [rvs_bools h2 hc]; rfl
    | _ => simp [boolsL] at h
theorem rvs_ints {K : PySem.W.Frag} {ρ : List Addr} {H : Hp} : ∀ {xs : List LV} {ys : List V} {bs : List Int}, RVs K cl ρ H xs ys → intsL xs = some bs → ys = bs.map V.int
  | [], ys, bs, r, h => by
    rw [show ys = [] from r]
    simp [intsL] at h
    subst h; rfl
  | x :: xs, ys, bs, r, h => by
    obtain ⟨y, t, rfl, h1, h2⟩ := r
    cases x with
    | int b =>
      simp only [intsL] at h
      obtain ⟨cs, hc, rfl⟩ := Option.map_eq_some_iff.mp h
      cases h1
      rw [rvs_ints h2 hc]; rfl
    | _ => simp [intsL] at h
theorem any_ok (hK : X.K = K) (hc : X.calm = true) (em : Em K cl ρ L H) {vs : List LV} {vs' : List V} {Q : VK} (r : RVs K cl ρ H vs vs') (h : Rd K cl ρ H (anyV vs L) (RV K cl) Q) :
    ∃ q, CallR X (.builtin "any") q ∧ q vs' H Q := by
  subst hK
  unfold anyV at h
  split at h
  · obtain ⟨a, ha, h⟩ := h.of
    obtain ⟨xs, h1, h2⟩ := Option.bind_eq_some_iff.mp ha
    obtain ⟨bs, h3, rfl⟩ := Option.map_eq_some_iff.mp h2
    obtain ⟨v, rfl, rv⟩ := rvs1 r
    obtain ⟨ad, ys, rfl, sq, rs⟩ := lstAt_sq em rv h1
    exact ⟨_, cr_any hc, ad, bs, rfl, by rw [← rvs_bools rs h3]; exact sq, h.ok em rfl⟩
  · exact h.stuck.elim
theorem all_ok' (hK : X.K = K) (hc : X.calm = true) (em : Em K cl ρ L H) {vs : List LV} {vs' : List V} {Q : VK} (r : RVs K cl ρ H vs vs') (h : Rd K cl ρ H (allV vs L) (RV K cl) Q) :
    ∃ q, CallR X (.builtin "all") q ∧ q vs' H Q := by
  subst hK
  unfold allV at h
  split at h
  · obtain ⟨a, ha, h⟩ := h.of
    obtain ⟨xs, h1, h2⟩ := Option.bind_eq_some_iff.mp ha
    obtain ⟨bs, h3, rfl⟩ := Option.map_eq_some_iff.mp h2
    obtain ⟨v, rfl, rv⟩ := rvs1 r
    obtain ⟨ad, ys, rfl, sq, rs⟩ := lstAt_sq em rv h1
    exact ⟨_, cr_all hc, ad, bs, rfl, by rw [← rvs_bools rs h3]; exact sq, h.ok em rfl⟩
  · exact h.stuck.elim
theorem sum_ok (hK : X.K = K) (hc : X.calm = true) (em : Em K cl ρ L H) {vs : List LV} {vs' : List V} {Q : VK} (r : RVs K cl ρ H vs vs') (h : Rd K cl ρ H (sumV vs L) (RV K cl) Q) :
    ∃ q, CallR X (.builtin "sum") q ∧ q vs' H Q := by
  subst hK
  unfold sumV at h
  split at h
  · obtain ⟨a, ha, h⟩ := h.of
    obtain ⟨xs, h1, h2⟩ := Option.bind_eq_some_iff.mp ha
    obtain ⟨bs, h3, rfl⟩ := Option.map_eq_some_iff.mp h2
    obtain ⟨v, rfl, rv⟩ := rvs1 r
    obtain ⟨ad, ys, rfl, sq, rs⟩ := lstAt_sq em rv h1
    exact ⟨_, cr_sum hc, ad, bs, rfl, by rw [← rvs_ints rs h3]; exact sq, h.ok em rfl⟩
  · exact h.stuck.elim
theorem mergeSort_congr {α : Type} {f g : α → α → Bool} : ∀ {l : List α}, (∀ x ∈ l, ∀ y ∈ l, f x y = g x y) → l.mergeSort f = l.mergeSort g := by
  intro l h
  have hm : ∀ (n : Nat) (a b : List α), a.length + b.length ≤ n → (∀ x ∈ a, ∀ y ∈ b, f x y = g x y) → List.merge a b f = List.merge a b g := by
    intro n
    induction n with
    | zero =>
      intro a b hn _
      cases a with
      | nil => simp
      | cons _ _ => simp at hn
    | succ n ih =>
      intro a b hn hab
      cases a with
      | nil => simp
      | cons x a => cases b with
        | nil => simp
        | cons y b =>
          rw [List.cons_merge_cons, List.cons_merge_cons, hab x List.mem_cons_self y List.mem_cons_self]
          rw [ih a (y :: b) (by simp at hn ⊢; omega) fun p hp q hq => hab p (List.mem_cons_of_mem _ hp) q hq]
          rw [ih (x :: a) b (by simp at hn ⊢; omega) fun p hp q hq => hab p hp q (List.mem_cons_of_mem _ hq)]
  have hs : ∀ (n : Nat) (l : List α), l.length ≤ n → (∀ x ∈ l, ∀ y ∈ l, f x y = g x y) → l.mergeSort f = l.mergeSort g := by
    intro n
    induction n with
    | zero =>
      intro l hl _
      have : l = [] := List.length_eq_zero_iff.mp (by omega)
      subst this
      simp
    | succ n ih =>
      intro l hl hh
      match l, hl, hh with
      | [], _, _ => simp
      | [a], _, _ => simp
      | a :: b :: r, hl, hh =>
        let sp := List.MergeSort.Internal.splitInTwo (⟨a :: b :: r, rfl⟩ : { l : List α // l.length = (a :: b :: r).length })
        have ef : (a :: b :: r).mergeSort f = List.merge (sp.1.1.mergeSort f) (sp.2.1.mergeSort f) f := by rw [List.mergeSort]
        have eg : (a :: b :: r).mergeSort g = List.merge (sp.1.1.mergeSort g) (sp.2.1.mergeSort g) g := by rw [List.mergeSort]
        have m1 : ∀ z ∈ sp.1.1, z ∈ a :: b :: r := fun z hz => by
          rw [show sp.1 = _ from List.MergeSort.Internal.splitInTwo_fst _] at hz
          exact List.mem_of_mem_take hz
        have m2 : ∀ z ∈ sp.2.1, z ∈ a :: b :: r := fun z hz => by
          rw [show sp.2 = _ from List.MergeSort.Internal.splitInTwo_snd _] at hz
          exact List.mem_of_mem_drop hz
        have l1 := sp.1.2
        have l2 := sp.2.2
        simp only [List.length_cons] at l1 l2 hl
        rw [ef, eg, ih sp.1.1 (by omega) fun x hx y hy => hh x (m1 x hx) y (m1 y hy), ih sp.2.1 (by omega) fun x hx y hy => hh x (m2 x hx) y (m2 y hy)]
        refine hm _ _ _ (Nat.le_refl _) fun x hx y hy => hh x (m1 x ?_) y (m2 y ?_)
        · exact (List.mergeSort_perm _ _).mem_iff.mp hx
        · exact (List.mergeSort_perm _ _).mem_iff.mp hy
  exact hs l.length l (Nat.le_refl _) h
theorem each_rvs {K : PySem.W.Frag} {cl : CA} {ρ : List Addr} {H : Hp} : ∀ {xs : List LV} {ys : List V} {us : List Value} {ds : List D}, RVs K cl ρ H xs ys → Vals ys us → ds.length = xs.length →
    PySem.W.EachIs (fun u (b : LV × D) => ∃ y, RelV y u ∧ RV K cl ρ H b.1 y) us (xs.zip ds)
  | [], ys, us, ds, r, v, h => by
    rw [show ys = [] from r] at v
    cases v
    cases ds with
    | nil => exact .nil
    | cons _ _ => simp at h
  | x :: xs, ys, us, ds, r, v, h => by
    obtain ⟨y, t, rfl, h1, h2⟩ := r
    cases ds with
    | nil => simp at h
    | cons d ds =>
      cases v with
      | cons v1 v2 => exact .cons ⟨y, v1, h1⟩ (each_rvs h2 v2 (by simpa using h))
theorem each_reads {h : Heap} : ∀ {xs : List LV} {us : List Value} {ds : List D} {as : List Addr}, PySem.ReadsAll h us (cvDs ds) as → ds.length = xs.length → PySem.W.EachIs (fun u (b : LV × D) => ∃ as, PySem.Reads h u (cvD b.2) as) us (xs.zip ds)
  | [], us, ds, as, r, h => by
    cases ds with
    | nil => simp only [cvDs] at r; cases r; exact .nil
    | cons _ _ => simp at h
  | x :: xs, us, ds, as, r, h => by
    cases ds with
    | nil => simp at h
    | cons d ds =>
      simp only [cvDs] at r
      cases r with
      | cons r1 r2 => exact .cons ⟨_, r1⟩ (each_reads r2 (by simpa using h))
theorem rvs_of_each {K : PySem.W.Frag} {cl : CA} {ρ : List Addr} {H : Hp} : ∀ {us : List Value} {bs : List (LV × D)}, PySem.W.EachIs (fun u (b : LV × D) => ∃ y, RelV y u ∧ RV K cl ρ H b.1 y) us bs → ∃ ys, Vals ys us ∧ RVs K cl ρ H (bs.map (·.1)) ys
  | _, _, .nil => ⟨[], .nil, rfl⟩
  | _, _, .cons ⟨y, h1, h2⟩ t => by
    obtain ⟨ys, h3, h4⟩ := rvs_of_each t
    exact ⟨y :: ys, .cons h1 h3, y, ys, rfl, h2, h4⟩
theorem toDs_len {L : LH} {n : Nat} : ∀ {xs : List LV} {ds : List D}, toDs n L xs = some ds → ds.length = xs.length
  | [], ds, h => by simp only [toDs] at h; cases h; rfl
  | x :: xs, ds, h => by
    simp only [toDs, Option.bind_eq_some_iff, Option.map_eq_some_iff] at h
    obtain ⟨d, _, dr, e2, rfl⟩ := h
    rw [List.length_cons, List.length_cons, toDs_len e2]
theorem dep_mem {d : D} : ∀ {ds : List D}, d ∈ ds → (cvD d).depth ≤ PyData.depthAll (cvDs ds)
  | [], h => by cases h
  | e :: ds, h => by
    simp only [cvDs, PyData.depthAll]
    rcases List.mem_cons.mp h with rfl | h
    · omega
    · have := dep_mem h; omega
theorem sorted_ok (hK : X.K = K) (hu : X.A.units + 64 < cLine) (em : Em K cl ρ L H) {vs : List LV} {vs' : List V} {Q : VK} (r : RVs K cl ρ H vs vs') (h : Rd K cl ρ H (sortedV vs L) (RV K cl) Q) :
    ∃ q, CallR X (.builtin "sorted") q ∧ q vs' H Q := by
  subst hK
  unfold sortedV at h
  split at h
  · split at h
    · rename_i xs hxs
      split at h
      · rename_i ds hds
        split at h
        · rename_i hc
          obtain ⟨hs, hl⟩ := hc
          obtain ⟨v, rfl, rv⟩ := rvs1 r
          obtain ⟨ad, ys, rfl, sq, rs⟩ := lstAt_sq em rv hxs
          have hdl := toDs_len hds
          obtain ⟨dp, hdep⟩ := toDs_dp em 59 rs hds
          refine ⟨fun zs H' Q' => zs = [V.ref ad] ∧ H' = H ∧ Q' = Q, ?_, rfl, rfl, rfl⟩
          rintro pins s σ H0 zs us Q0 I rz ⟨rfl, rfl, rfl⟩
          rw [Vals.ref1 rz]
          obtain ⟨its, rvl, hpl, hz⟩ := I.list sq
          obtain ⟨as, rd⟩ := Dp.readsAll I (cvDs ds) _ _ dp rvl
          unfold sortOk at hs
          rw [Bool.and_eq_true] at hs
          have bsmap : (xs.zip ds).map (fun b => cvD b.2) = ds.map cvD := by
            rw [show (fun b : LV × D => cvD b.2) = cvD ∘ Prod.snd from rfl, ← List.map_map, List.map_snd_zip (by omega)]
          refine PySem.W.sorted_data (enc := fun b : LV × D => cvD b.2) hpl.isList (each_rvs rs rvl hdl) (each_reads rd hdl) (fun d hd e he => ?_) ?_ (by simp [hdl]; exact le_line hl) (fun b hb => ?_) fun out hlen eo => ?_
          · rw [bsmap] at hd he
            obtain ⟨d', hd', rfl⟩ := List.mem_map.mp hd
            obtain ⟨e', he', rfl⟩ := List.mem_map.mp he
            rw [cvD_alike]
            exact List.all_eq_true.mp (List.all_eq_true.mp hs.1 d' hd') e' he'
          · rw [bsmap]
            rcases Bool.or_eq_true_iff.mp hs.2 with h1 | h1
            · left
              intro d hd
              obtain ⟨d', hd', rfl⟩ := List.mem_map.mp hd
              have := List.all_eq_true.mp h1 d' hd'
              cases d' with
              | tup zs => cases zs with
                | nil => simp [pairD] at this
                | cons z zs => exact ⟨cvD z, cvDs zs, by simp only [cvD, cvDs]⟩
              | _ => simp [pairD] at this
            · right
              intro d hd
              obtain ⟨d', hd', rfl⟩ := List.mem_map.mp hd
              have := List.all_eq_true.mp h1 d' hd'
              cases d' <;> simp [nonD, tupD, cvD] at this ⊢
          · have hb2 : b.2 ∈ ds := (List.of_mem_zip hb).2
            have := dep_mem hb2
            show X.A.units + 2 + (cvD b.2).depth < cLine
            omega
          · obtain ⟨ys', v1, v2⟩ := rvs_of_each eo
            obtain ⟨ep, he'⟩ := PyProof.Rows.sortedAll_at s.heap its out.toArray
            have hn : H0 (s.heap.objs.size + 1) = none := I.hok.fresh (Nat.le_succ _)
            have hsort : (xs.zip ds).mergeSort (PySem.W.dataLe false fun b : LV × D => cvD b.2) = (xs.zip ds).mergeSort fun p q => !ltD q.2 p.2 := by
              apply mergeSort_congr
              intro p hp q hq
              rw [PySem.W.dataLe_eq]
              show (!PySem.W.dataLt (cvD q.2) (cvD p.2)) = _
              rw [cvD_lt]
              exact List.all_eq_true.mp (List.all_eq_true.mp hs.1 q.2 (List.of_mem_zip hq).2) p.2 (List.of_mem_zip hp).2
            rw [hsort] at v2
            have hlen2 : ys'.length ≤ sizeLine := by
              rw [v2.len]; simp [hdl]; exact le_line hl
            obtain ⟨em2, n2⟩ := em.new (p := s.heap.objs.size + 1) (u := .lst ys') (o := .lst (sortF xs ds)) hn rfl ⟨ys', upd_same, RVs.nx em (by
              have np : s.heap.objs.size + 1 ∉ ρ := em.notMemNone hn
              refine ⟨List.prefix_append _ _, fun a o' h n => ?_⟩
              have ne : a ≠ s.heap.objs.size + 1 := fun z => by rw [z, hn] at h; cases h
              refine ⟨by rw [upd_ne ne]; exact h, ?_⟩
              rw [List.mem_append, not_or]
              exact ⟨n, by simpa using ne⟩) v2⟩
            refine ⟨.ref _, upd H0 (s.heap.objs.size + 1) (.lst ys'), I.laid (t' := s.toks) (fun _ _ => PyProof.Rows.sortedAll_old) (Nat.le_succ _) ⟨hlen2, out, ep, v1, he'⟩, rfl, ?_⟩
            exact h.ok' n2 em2 ⟨_, rfl, by rw [List.getElem?_append_right (by rw [em.len]; exact Nat.le_refl _), em.len, Nat.sub_self]; rfl⟩
        · exact h.stuck.elim
      · exact h.stuck.elim
    · exact h.stuck.elim
  · exact h.stuck.elim
theorem minL_ok (hK : X.K = K) (hc : X.calm = true) (em : Em K cl ρ L H) {vs : List LV} {vs' : List V} {Q : VK} (r : RVs K cl ρ H vs vs') (h : Rd K cl ρ H (minL vs L) (RV K cl) Q) :
    ∃ q, CallR X (.builtin "min") q ∧ q vs' H Q := by
  subst hK
  unfold minL at h
  split at h
  · obtain ⟨a, ha, h⟩ := h.of
    obtain ⟨ns, h1, h2⟩ := Option.bind_eq_some_iff.mp ha
    obtain ⟨m, h3, rfl⟩ := Option.map_eq_some_iff.mp h2
    obtain ⟨xs, h4, h5⟩ := Option.bind_eq_some_iff.mp h1
    obtain ⟨v, rfl, rv⟩ := rvs1 r
    obtain ⟨ad, ys, rfl, sq, rs⟩ := lstAt_sq em rv h4
    obtain ⟨q1, q2⟩ := List.min?_eq_some_iff.mp h3
    refine ⟨_, cr_min hc, ad, ns, rfl, by rw [← rvs_ints rs h5]; exact sq, List.length_pos_of_mem q1, fun m' g1 g2 => ?_⟩
    have : m' = m := by
      have a1 := g2 m q1
      have a2 := q2 m' g1
      omega
    subst this
    exact h.ok em rfl
  · exact h.stuck.elim
theorem maxL_ok (hK : X.K = K) (hc : X.calm = true) (em : Em K cl ρ L H) {vs : List LV} {vs' : List V} {Q : VK} (r : RVs K cl ρ H vs vs') (h : Rd K cl ρ H (maxL vs L) (RV K cl) Q) :
    ∃ q, CallR X (.builtin "max") q ∧ q vs' H Q := by
  subst hK
  unfold maxL at h
  split at h
  · obtain ⟨a, ha, h⟩ := h.of
    obtain ⟨ns, h1, h2⟩ := Option.bind_eq_some_iff.mp ha
    obtain ⟨m, h3, rfl⟩ := Option.map_eq_some_iff.mp h2
    obtain ⟨xs, h4, h5⟩ := Option.bind_eq_some_iff.mp h1
    obtain ⟨v, rfl, rv⟩ := rvs1 r
    obtain ⟨ad, ys, rfl, sq, rs⟩ := lstAt_sq em rv h4
    obtain ⟨q1, q2⟩ := List.max?_eq_some_iff.mp h3
    refine ⟨_, cr_max hc, ad, ns, rfl, by rw [← rvs_ints rs h5]; exact sq, List.length_pos_of_mem q1, fun m' g1 g2 => ?_⟩
    have : m' = m := by
      have a1 := g2 m q1
      have a2 := q2 m' g1
      omega
    subst this
    exact h.ok em rfl
  · exact h.stuck.elim
theorem split_ok (em : Em K cl ρ L H) {z : String} {vs : List LV} {vs' : List V} {Q : VK} (r : RVs K cl ρ H vs vs') (h : Rd K cl ρ H (splitV z vs L) (RV K cl) Q) :
    ∃ q, MtM X "str.split" q ∧ q (.str (Str.ofString z)) vs' H Q := by
  unfold splitV at h
  split at h
  · split at h
    · rename_i sep hc
      obtain ⟨c1, c2, c3⟩ := hc
      obtain ⟨v, rfl, rv⟩ := rvs1 r
      cases rv
      refine ⟨_, mt_split, _, _, rfl, rfl, c1, Nat.le_trans c2 (by decide), fun p hp => ?_⟩
      rw [← c3]
      have rl : ∀ (ρ : List Addr) (H : Hp) (ss : List String), RVs K cl ρ H (ss.map .str) ((ss.map Str.ofString).map V.str) := by
        intro ρ H ss
        induction ss with
        | nil => exact rfl
        | cons a r ih => exact ⟨_, _, rfl, rfl, ih⟩
      obtain ⟨em2, n2⟩ := em.new (u := .lst (((splL z sep).map Str.ofString).map V.str)) (o := .lst ((splL z sep).map .str)) hp rfl ⟨_, upd_same, rl _ _ _⟩
      exact h.ok' n2 em2 ⟨p, rfl, by rw [List.getElem?_append_right (by rw [em.len]; exact Nat.le_refl _), em.len, Nat.sub_self]; rfl⟩
    · exact h.stuck.elim
  · exact h.stuck.elim
theorem min_ok (hK : X.K = K) (hc : X.calm = true) (em : Em K cl ρ L H) {vs : List LV} {vs' : List V} {Q : VK} (r : RVs K cl ρ H vs vs') (h : Rd K cl ρ H (minV vs L) (RV K cl) Q) :
    ∃ q, CallR X (.builtin "min") q ∧ q vs' H Q := by
  unfold minV at h
  split at h
  · obtain ⟨v, u, rfl, rv, ru⟩ := rvs2 r
    cases rv; cases ru
    exact ⟨_, call_min2 hc, _, _, rfl, h.ok em rfl⟩
  · exact minL_ok hK hc em r h
theorem max_ok (hK : X.K = K) (hc : X.calm = true) (em : Em K cl ρ L H) {vs : List LV} {vs' : List V} {Q : VK} (r : RVs K cl ρ H vs vs') (h : Rd K cl ρ H (maxV vs L) (RV K cl) Q) :
    ∃ q, CallR X (.builtin "max") q ∧ q vs' H Q := by
  unfold maxV at h
  split at h
  · obtain ⟨v, u, rfl, rv, ru⟩ := rvs2 r
    cases rv; cases ru
    exact ⟨_, call_max2 hc, _, _, rfl, h.ok em rfl⟩
  · exact maxL_ok hK hc em r h
theorem int_ok (em : Em K cl ρ L H) {vs : List LV} {vs' : List V} {Q : VK} (r : RVs K cl ρ H vs vs') (h : Rd K cl ρ H (intV vs L) (RV K cl) Q) :
    ∃ q, CallR X (.type "int") q ∧ q vs' H Q := by
  unfold intV at h
  split at h
  · obtain ⟨v, rfl, rv⟩ := rvs1 r
    cases rv
    exact ⟨_, call_int1, .inl ⟨_, rfl, h.ok em rfl⟩⟩
  · obtain ⟨v, rfl, rv⟩ := rvs1 r
    cases rv
    exact ⟨_, call_int1, .inr ⟨_, rfl, h.ok em rfl⟩⟩
  · exact h.stuck.elim
theorem lst_ok (hK : X.K = K) (em : Em K cl ρ L H) {vs : List LV} {vs' : List V} {Q : VK} (r : RVs K cl ρ H vs vs') (h : Rd K cl ρ H (lstV vs L) (RV K cl) Q) :
    ∃ q, CallR X (.type "list") q ∧ q vs' H Q := by
  subst hK
  unfold lstV at h
  split at h
  · split at h
    · rename_i hs
      obtain ⟨v, rfl, rv⟩ := rvs1 r
      obtain ⟨a, ys, rfl, sq, rs⟩ := seqAt_sq em rv hs
      exact ⟨_, call_list_of, a, ys, rfl, sq, new_lst em rs h⟩
    · exact h.stuck.elim
  · exact h.stuck.elim
theorem tup_ok (hK : X.K = K) (em : Em K cl ρ L H) {vs : List LV} {vs' : List V} {Q : VK} (r : RVs K cl ρ H vs vs') (h : Rd K cl ρ H (tupV vs L) (RV K cl) Q) :
    ∃ q, CallR X (.type "tuple") q ∧ q vs' H Q := by
  subst hK
  unfold tupV at h
  split at h
  · split at h
    · rename_i hs
      obtain ⟨v, rfl, rv⟩ := rvs1 r
      obtain ⟨a, ys, rfl, sq, rs⟩ := seqAt_sq em rv hs
      refine ⟨_, call_tuple_of, a, ys, rfl, ?_⟩
      rcases sq with sq | sq
      · exact .inl ⟨sq, new_tup em rs h⟩
      · exact .inr ⟨sq, h.ok em ⟨a, ys, rfl, sq, rs⟩⟩
    · exact h.stuck.elim
  · exact h.stuck.elim

/-- isinstance -/
theorem kB1 : kitB "NoneType" "int" = some false ∧ kitB "NoneType" "bool" = some false ∧ kitB "NoneType" "str" = some false ∧ kitB "NoneType" "list" = some false ∧ kitB "NoneType" "tuple" = some false ∧ kitB "NoneType" "dict" = some false := by decide +kernel
theorem kB2 : kitB "bool" "int" = some true ∧ kitB "bool" "bool" = some true ∧ kitB "bool" "str" = some false ∧ kitB "bool" "list" = some false ∧ kitB "bool" "tuple" = some false ∧ kitB "bool" "dict" = some false := by decide +kernel
theorem kB3 : kitB "int" "int" = some true ∧ kitB "int" "bool" = some false ∧ kitB "int" "str" = some false ∧ kitB "int" "list" = some false ∧ kitB "int" "tuple" = some false ∧ kitB "int" "dict" = some false := by decide +kernel
theorem kB4 : kitB "str" "int" = some false ∧ kitB "str" "bool" = some false ∧ kitB "str" "str" = some true ∧ kitB "str" "list" = some false ∧ kitB "str" "tuple" = some false ∧ kitB "str" "dict" = some false := by decide +kernel
theorem kB5 : kitB "list" "int" = some false ∧ kitB "list" "bool" = some false ∧ kitB "list" "str" = some false ∧ kitB "list" "list" = some true ∧ kitB "list" "tuple" = some false ∧ kitB "list" "dict" = some false := by decide +kernel
theorem kB6 : kitB "tuple" "int" = some false ∧ kitB "tuple" "bool" = some false ∧ kitB "tuple" "str" = some false ∧ kitB "tuple" "list" = some false ∧ kitB "tuple" "tuple" = some true ∧ kitB "tuple" "dict" = some false := by decide +kernel
theorem kB7 : kitB "dict" "int" = some false ∧ kitB "dict" "bool" = some false ∧ kitB "dict" "str" = some false ∧ kitB "dict" "list" = some false ∧ kitB "dict" "tuple" = some false ∧ kitB "dict" "dict" = some true := by decide +kernel
abbrev isiNames : List String := ["int", "bool", "str", "list", "tuple", "dict"]
theorem kind_ok (em : Em K cl ρ L H) {v : LV} {v' : V} {t : String} {b : Bool} (r : RV K cl ρ H v v') (ht : t ∈ isiNames) (h : isKind L v t = some b) :
    ∃ u, TyX K H v' (.type u) ∧ kitB u t = some b := by
  simp only [isiNames, List.mem_cons, List.not_mem_nil, or_false] at ht
  cases v with
  | non =>
    cases r
    refine ⟨"NoneType", .base .non, ?_⟩
    obtain ⟨a1, a2, a3, a4, a5, a6⟩ := kB1
    rcases ht with rfl | rfl | rfl | rfl | rfl | rfl <;> simp [isKind] at h <;> subst h <;> assumption
  | bl x =>
    cases r
    refine ⟨"bool", .base (.bl x), ?_⟩
    obtain ⟨a1, a2, a3, a4, a5, a6⟩ := kB2
    rcases ht with rfl | rfl | rfl | rfl | rfl | rfl <;> simp [isKind] at h <;> subst h <;> assumption
  | int x =>
    cases r
    refine ⟨"int", .base (.int x), ?_⟩
    obtain ⟨a1, a2, a3, a4, a5, a6⟩ := kB3
    rcases ht with rfl | rfl | rfl | rfl | rfl | rfl <;> simp [isKind] at h <;> subst h <;> assumption
  | str x =>
    cases r
    refine ⟨"str", .base (.str _), ?_⟩
    obtain ⟨a1, a2, a3, a4, a5, a6⟩ := kB4
    rcases ht with rfl | rfl | rfl | rfl | rfl | rfl <;> simp [isKind] at h <;> subst h <;> assumption
  | fl xs =>
    obtain ⟨a, ys, rfl, sq, rs⟩ := r
    refine ⟨"list", ?_, ?_⟩
    · rcases sq with ⟨q, _⟩ | ⟨o, q⟩ | ⟨its, n, sl, q1, _⟩
      · exact .base (.lst q)
      · exact .base (.frz q)
      · exact .kList q1 rfl
    · obtain ⟨a1, a2, a3, a4, a5, a6⟩ := kB5
      rcases ht with rfl | rfl | rfl | rfl | rfl | rfl <;> simp [isKind] at h <;> subst h <;> assumption
  | tup xs =>
    obtain ⟨a, ys, rfl, sq, rs⟩ := r
    refine ⟨"tuple", ?_, ?_⟩
    · rcases sq with (q | ⟨o, q⟩) | ⟨o, its, n, q1, q2, _⟩
      · exact .base (.tup q)
      · exact .fTuple q
      · exact .kTuple q1 q2
    · obtain ⟨a1, a2, a3, a4, a5, a6⟩ := kB6
      rcases ht with rfl | rfl | rfl | rfl | rfl | rfl <;> simp [isKind] at h <;> subst h <;> assumption
  | ob c ns xs => simp [isKind] at h
  | ref i =>
    simp only [isKind] at h
    split at h
    · rename_i hL
      obtain ⟨a, rfl, ha⟩ := r
      obtain ⟨ys, hH, rs⟩ := em.obj i _ a hL ha
      refine ⟨"list", .base (.lst hH), ?_⟩
      obtain ⟨a1, a2, a3, a4, a5, a6⟩ := kB5
      rcases ht with rfl | rfl | rfl | rfl | rfl | rfl <;> simp at h <;> subst h <;> assumption
    · rename_i hL
      obtain ⟨a, rfl, ha⟩ := r
      obtain ⟨ys, hH, rs⟩ := em.obj i _ a hL ha
      refine ⟨"dict", .base (.dK hH), ?_⟩
      obtain ⟨a1, a2, a3, a4, a5, a6⟩ := kB7
      rcases ht with rfl | rfl | rfl | rfl | rfl | rfl <;> simp at h <;> subst h <;> assumption
    · cases h

/-- an object written, the reading -/
theorem put_lst (em : Em K cl ρ L H) {i : Nat} {a : Addr} (ha : ρ[i]? = some a) {xs : List LV} {ys : List V} (rs : RVs K cl ρ H xs ys) :
    Em K cl ρ (L.set i (.lst xs)) (upd H a (.lst ys)) ∧ Nx ρ ρ H (upd H a (.lst ys)) :=
  em.put ha rfl fun nx => ⟨ys, upd_same, RVs.nx em nx rs⟩
theorem append_ok (em : Em K cl ρ L H) {x : LV} {x' : V} {vs : List LV} {vs' : List V} {Q : VK} (rx : RV K cl ρ H x x') (r : RVs K cl ρ H vs vs') (h : Rd K cl ρ H (appendV x vs L) (RV K cl) Q) :
    ∃ q, MtM X "list.append" q ∧ q x' vs' H Q := by
  unfold appendV at h
  split at h
  · split at h
    · rename_i hL
      split at h
      · rename_i hl
        obtain ⟨a, rfl, ha⟩ := rx
        obtain ⟨y, rfl, ry⟩ := rvs1 r
        obtain ⟨ys, hH, rs⟩ := em.obj _ _ a hL ha
        obtain ⟨em', nx⟩ := put_lst em ha (rs.app (RVs.one ry))
        exact ⟨_, mt_append, a, ys, y, rfl, rfl, hH, by rw [rs.len]; exact lt_line hl, h.ok' nx em' rfl⟩
      · exact h.stuck.elim
    · exact h.stuck.elim
  · exact h.stuck.elim
theorem RVs.dropLast : ∀ {xs : List LV} {ys : List V}, RVs K cl ρ H xs ys → RVs K cl ρ H xs.dropLast ys.dropLast := fun {xs ys} r => by
  rw [List.dropLast_eq_take, List.dropLast_eq_take, r.len]
  exact r.take _
theorem pop_ok (em : Em K cl ρ L H) {x : LV} {x' : V} {vs : List LV} {vs' : List V} {Q : VK} (rx : RV K cl ρ H x x') (r : RVs K cl ρ H vs vs') (h : Rd K cl ρ H (popV x vs L) (RV K cl) Q) :
    ∃ q, MtM X "list.pop" q ∧ q x' vs' H Q := by
  unfold popV at h
  split at h
  · split at h
    · rename_i hL
      split at h
      · rename_i hy
        obtain ⟨a, rfl, ha⟩ := rx
        have e := rvs0 r
        subst e
        obtain ⟨ys, hH, rs⟩ := em.obj _ _ a hL ha
        rw [List.getLast?_eq_getElem?] at hy
        obtain ⟨y', h1, h2⟩ := rs.get hy
        obtain ⟨em', nx⟩ := put_lst em ha rs.dropLast
        refine ⟨_, mt_pop, a, ys, y', rfl, rfl, hH, by rw [rs.len]; exact h1, h.ok' nx em' (RV.nx em nx h2)⟩
      · exact h.stuck.elim
    · exact h.stuck.elim
  · exact h.stuck.elim
end
end G
set_option Elab.async false
set_option linter.all false
set_option maxRecDepth 100000
set_option maxHeartbeats 4000000
/-! G7: expressions. -/
namespace G
open PySem PySem.Spec PyProof.Rows L2
section
variable {N : List Str} {S : Sig} {sc : Scope} {k : Nat} {cl : CA} {T : Tbl} {C : Orc}
theorem form_es {xs : List Ex} {es : List Expr} (h : isEs N S sc xs es = true) (hl : xs.length < 20) (pos : Pos) (env : Env) :
    methodCallForm (es.length + ([] : List Keyword).length) (backTo pos (starEach es env)) (backToKw pos (keywordEach [] env)) = true := by
  unfold methodCallForm
  have h1 : (backTo pos (starEach es env)).all (fun x => !x.1) = true := by
    have := plain_es h pos env
    rw [List.all_eq_not_any_not]
    simpa using this
  rw [h1, len_es h]
  show (true && true && decide (xs.length + 0 + 0 < 30)) = true
  simp
  omega
theorem call_form {o : Expr} {m : Str} {apos pos : Pos} {es : List Expr} {xs : List Ex} (env : Env) (hb : baseB o = true) (h : isEs N S sc xs es = true) (hl : xs.length < 20) (hp : (apos.endLine == pos.line) = true) :
    eval (.Call (.Attribute o m apos) es [] pos) env = (do
      let ov ← eval o env
      standAt apos.atName
      let (f, first) ← holding [ov] (getMethod ov m (do return (← importBound o env).getD true))
      callWith pos f first (backTo pos (starEach es env)) (backToKw pos (keywordEach [] env))) := by
  rw [PySem.arm_eval_Call, base_of hb]
  have hf := form_es h hl pos env
  have hp' : (!true || decide (apos.endLine = pos.line)) = true := by simpa using hp
  have e : ∀ ov, methodCall o m apos pos env ov (es.length + ([] : List Keyword).length) (backTo pos (starEach es env)) (backToKw pos (keywordEach [] env)) = (do
      let (f, first) ← holding [ov] (getMethod ov m (do return (← importBound o env).getD true))
      callWith pos f first (backTo pos (starEach es env)) (backToKw pos (keywordEach [] env))) := by
    intro ov
    unfold methodCall calleeOf methodCallPos
    rw [hf]
    simp only [Bool.not_true, Bool.false_or, if_true]
    rw [if_pos hp]
    rfl
  simp only [e]

theorem lookup_rfs {K : PySem.W.Frag} {ρ : List Addr} {H : Hp} {f : String} : ∀ {fs : List (String × LV)} {ys : List (Str × V)}, RFs K cl ρ H fs ys →
    (∀ v, getF f fs = some v → ∃ y, ys.lookup (Str.ofString f) = some y ∧ RV K cl ρ H v y) ∧ (getF f fs = none → ys.lookup (Str.ofString f) = none)
  | [], ys, r => by
    rw [show ys = [] from r]
    exact ⟨fun v h => by simp [getF] at h, fun _ => rfl⟩
  | (g, x) :: fs, ys, r => by
    obtain ⟨y, t, rfl, h1, h2⟩ := r
    obtain ⟨i1, i2⟩ := lookup_rfs (f := f) h2
    by_cases e : f = g
    · subst e
      refine ⟨fun v h => ?_, fun h => ?_⟩
      · simp [getF] at h
        subst h
        exact ⟨y, by simp [List.lookup], h1⟩
      · simp [getF] at h
    · have ne : (Str.ofString f == Str.ofString g) = false := by
        simp [ofS_inj, e]
      refine ⟨fun v h => ?_, fun h => ?_⟩
      · simp only [getF, if_neg e] at h
        obtain ⟨z, h3, h4⟩ := i1 v h
        exact ⟨z, by simp [List.lookup, ne, h3], h4⟩
      · simp only [getF, if_neg e] at h
        simp [List.lookup, ne, i2 h]

theorem lookup_ob {K : PySem.W.Frag} {ρ : List Addr} {H : Hp} {f : String} : ∀ {ns : List String} {xs : List LV} {ys : List V}, RVs K cl ρ H xs ys → ns.length = xs.length →
    (∀ v, getO f ns xs = some v → ∃ y, ((ns.map Str.ofString).zip ys).lookup (Str.ofString f) = some y ∧ RV K cl ρ H v y) ∧ (getO f ns xs = none → ((ns.map Str.ofString).zip ys).lookup (Str.ofString f) = none)
  | [], xs, ys, r, hl => ⟨fun v h => by simp [getO] at h, fun _ => rfl⟩
  | g :: ns, [], ys, r, hl => by simp at hl
  | g :: ns, x :: xs, ys, r, hl => by
    obtain ⟨y, t, rfl, h1, h2⟩ := r
    obtain ⟨i1, i2⟩ := lookup_ob (f := f) h2 (by simpa using hl)
    by_cases e : f = g
    · subst e
      refine ⟨fun v h => ?_, fun h => ?_⟩
      · simp [getO] at h
        subst h
        exact ⟨y, by simp [List.lookup], h1⟩
      · simp [getO] at h
    · have ne : (Str.ofString f == Str.ofString g) = false := by
        simp [ofS_inj, e]
      refine ⟨fun v h => ?_, fun h => ?_⟩
      · simp only [getO, if_neg e] at h
        obtain ⟨z, h3, h4⟩ := i1 v h
        exact ⟨z, by simp [List.lookup, ne, h3], h4⟩
      · simp only [getO, if_neg e] at h
        simp [List.lookup, ne, i2 h]

theorem fill_of {K : PySem.W.Frag} {ρ : List Addr} {H : Hp} {fd : FuncData} {ps : List Str} {ds : List LV} (f : Fill K cl fd ps ds) : ∃ dv dV, Vals dv dV ∧ Binds K fd ps dV ∧ RVs K cl ρ H ds dv :=
  let ⟨dv, dV, a, b, c⟩ := f; ⟨dv, dV, a, b, c ρ H⟩

theorem ixL_eq : ∀ {n : Nat} {i : Int} {j : Nat}, ixL n i = some j → ixN n i = some j := fun h => h
theorem cut_rvs {K : PySem.W.Frag} {ρ : List Addr} {H : Hp} {xs : List LV} {ys : List V} (r : RVs K cl ρ H xs ys) (lo hi : Option Int) : RVs K cl ρ H (cutL xs lo hi) (cutV ys lo hi) := by
  unfold cutV cutL
  rw [r.len]
  exact (r.drop _).take _

/-- an object of a class, made -/
theorem new_ins {K : PySem.W.Frag} {ρ : List Addr} {H : Hp} {L : LH} (em : Em K cl ρ L H) {c : String} {ca x dx : Addr} (hc : cl c = some ca) (hx : H x = none) (hdx : H dx = none) (ne : dx ≠ x) :
    Em K cl (ρ ++ [x]) (L ++ [.ins c []]) (upd (upd H dx (.own x)) x (.ins ca dx [])) ∧ Nx ρ (ρ ++ [x]) H (upd (upd H dx (.own x)) x (.ins ca dx [])) := by
  obtain ⟨e1, n1⟩ := em.laid (u := .own x) hdx
  have hx' : upd H dx (.own x) x = none := by rw [upd_ne (Ne.symm ne)]; exact hx
  obtain ⟨e2, n2⟩ := e1.new (o := .ins c []) (u := .ins ca dx []) hx' rfl ⟨ca, dx, [], hc, upd_same, rfl⟩
  exact ⟨e2, n1.trans n2⟩

theorem rdT_E {K : PySem.W.Frag} {E : Ex} {σ : L2.St} {H : Hp} {Q : Bool → Hp → Prop} (h : rdT K cl T C E σ H Q) : rdE K cl T C E σ H fun x H' => ∃ k, x = .bl k ∧ Q k H' := by
  obtain ⟨ρ, s, L, em, rs, rd⟩ := h
  refine ⟨ρ, s, L, em, rs, (rd.bind (RV K cl)).imp fun x' H1 ⟨ρ1, x, L1, n1, em1, rx, rd⟩ => ?_⟩
  cases x with
  | bl b =>
    cases rx
    exact ⟨b, rfl, rd.ok em1 rfl⟩
  | _ => exact rd.stuck.elim
theorem pt_of {X : Cx} {E : Ex} {e : Expr} (p : PE X e (rdE X.K cl T C E)) (he : ∀ whole, isTrue e X.env whole = (do let v ← whole; standAt e.pos; holding [v] (truthy v))) : PT X e (rdT X.K cl T C E) :=
  ⟨fun pins s σ H Q I h => (pt_val p he).run pins s σ H Q I (rdT_E h)⟩
/-! ### methods of operators -/
/-- x op y by the method of x's class -/
def rOwn2 (ca fa : Addr) (sp : Sp) : R2 := fun x y H Q => ∃ p q dx dy fs gs, x = .ref p ∧ y = .ref q ∧ H p = some (.ins ca dx fs) ∧ H q = some (.ins ca dy gs) ∧ sp [x, y] H (fun v H' => (∃ r, v = .ref r) ∧ Q v H') E0
theorem op_own {X : Cx} {op : Operator} {ca fa : Addr} {fd : FuncData} {ps : List Str} {sp : Sp} {m : String} (hd : Dun X.K ca fa m) (hm : PySem.dunder op.info.2 = Str.ofString m) (F : FnOk X.prog X.w X.K X.mg X.base CX0 k fa fd ps sp) (hr : Room k X.A) (hb : Binds X.K fd ps []) :
    OpR X (binaryOp op) (rOwn2 ca fa sp) := by
  intro pins s σ H x y v u Q I rx ry h
  obtain ⟨p, q, dx, dy, fs, gs, rfl, rfl, hp, hq, hsp⟩ := h
  obtain rfl : v = Value.ref p := rx
  obtain rfl : u = Value.ref q := ry
  obtain ⟨h1, h2, h3⟩ := hd
  obtain ⟨mA, J, _⟩ := ins_get I.hok hp
  obtain ⟨od, J, _⟩ := J.look
  obtain ⟨mB, J2, _⟩ := ins_get I.hok hq
  obtain ⟨od2, J2, _⟩ := J2.look
  obtain ⟨mm, hF⟩ := I.fr
  refine PySem.W.binop_K hF I.ok.mod.kin J J2.type h1 (by rw [hm]; exact h2) h3 ?_
  refine wpAny_mono (run_fn (us := [.ref p, .ref q]) (vs := [.ref p, .ref q]) F hr hb .nil pass0 I (.cons rfl (.cons rfl .nil)) hsp) (fun u s' e => ?_) fun _ _ e => e
  obtain ⟨v, H', I', rv, ⟨r, rfl⟩, q⟩ := e
  obtain rfl : u = Value.ref r := rv
  exact ⟨.ref r, H', I', rfl, q⟩
/-- x in y by y's own method -/
def rOwnIn (b : Bool) (ca fa : Addr) (sp : Sp) : R2 := fun x y H Q => ∃ q dy gs, y = .ref q ∧ H q = some (.ins ca dy gs) ∧ sp [y, x] H (fun v H' => ∃ r, v = .bl r ∧ Q (.bl (if b = true then r else !r)) H') E0
theorem op_ownIn {X : Cx} {ca fa : Addr} {fd : FuncData} {ps : List Str} {sp : Sp} (hd : Dun X.K ca fa "__contains__") (F : FnOk X.prog X.w X.K X.mg X.base CX0 k fa fd ps sp) (hr : Room k X.A) (hb : Binds X.K fd ps []) :
    OpR X (compareOp .In) (rOwnIn true ca fa sp) := by
  intro pins s σ H x y v u Q I rx ry h
  obtain ⟨q, dy, gs, rfl, hq, hsp⟩ := h
  obtain rfl : u = Value.ref q := ry
  obtain ⟨h1, h2, h3⟩ := hd
  obtain ⟨mB, J2, _⟩ := ins_get I.hok hq
  obtain ⟨od2, J2, _⟩ := J2.look
  obtain ⟨mm, hF⟩ := I.fr
  refine PySem.W.in_K hF I.ok.mod.kin J2 h2 h3 ?_
  refine wpAny_mono (run_fn (us := [.ref q, v]) (vs := [.ref q, x]) F hr hb .nil pass0 I (.cons rfl (.cons rx .nil)) hsp) (fun u s' e => ?_) fun _ _ e => e
  obtain ⟨v, H', I', rv, r, rfl, q⟩ := e
  obtain rfl : u = Value.bool r := rv
  exact wpAny_truthy_bool ⟨.bl r, H', I', rfl, by simpa using q⟩
theorem op_ownNotIn {X : Cx} {ca fa : Addr} {fd : FuncData} {ps : List Str} {sp : Sp} (hd : Dun X.K ca fa "__contains__") (F : FnOk X.prog X.w X.K X.mg X.base CX0 k fa fd ps sp) (hr : Room k X.A) (hb : Binds X.K fd ps []) :
    OpR X (compareOp .NotIn) (rOwnIn false ca fa sp) := by
  intro pins s σ H x y v u Q I rx ry h
  obtain ⟨q, dy, gs, rfl, hq, hsp⟩ := h
  obtain rfl : u = Value.ref q := ry
  obtain ⟨h1, h2, h3⟩ := hd
  obtain ⟨mB, J2, _⟩ := ins_get I.hok hq
  obtain ⟨od2, J2, _⟩ := J2.look
  obtain ⟨mm, hF⟩ := I.fr
  refine PySem.W.notIn_K hF I.ok.mod.kin J2 h2 h3 ?_
  refine wpAny_mono (run_fn (us := [.ref q, v]) (vs := [.ref q, x]) F hr hb .nil pass0 I (.cons rfl (.cons rx .nil)) hsp) (fun u s' e => ?_) fun _ _ e => e
  obtain ⟨v, H', I', rv, r, rfl, q⟩ := e
  obtain rfl : u = Value.bool r := rv
  exact wpAny_truthy_bool ⟨.bl (!r), H', I', rfl, by simpa using q⟩
theorem fill_nil {K : PySem.W.Frag} {fd : FuncData} {ps : List Str} (f : Fill K cl fd ps []) : Binds K fd ps [] := by
  obtain ⟨dv, dV, r1, r2, r3⟩ := f
  have := r3 [] (fun _ => none)
  rw [show dv = [] from this] at r1
  cases r1
  exact r2
theorem binO_or (C : Orc) (op : BOp) (x y : LV) (L : LH) : (∃ c n a n' a', x = .ob c n a ∧ y = .ob c n' a' ∧ ∃ m, dunB op = some m ∧ binO C op x y L = (C (c ++ "." ++ m) [x, y] L).bind fun v L => (match v with | .ob _ _ _ => .ok v L | _ => .stuck)) ∨ binO C op x y L = binV op x y L ∨ binO C op x y L = .stuck := by
  cases x with
  | ob c n a => cases y with
    | ob c' n' a' =>
      by_cases e : c = c'
      · subst e
        simp only [binO, if_true]
        cases hm : dunB op with
        | none => exact .inr (.inr rfl)
        | some m => exact .inl ⟨c, n, a, n', a', rfl, rfl, m, rfl, rfl⟩
      · simp only [binO, if_neg e]; exact .inr (.inr trivial)
    | _ => exact .inr (.inl rfl)
  | _ => exact .inr (.inl rfl)
theorem ob_ins {K : PySem.W.Frag} {ρ : List Addr} {H : Hp} {c : String} {n : List String} {a : List LV} {v : V} (r : RV K cl ρ H (.ob c n a) v) : ∃ p ca dx fs, v = .ref p ∧ cl c = some ca ∧ H p = some (.ins ca dx fs) := by
  obtain ⟨p, ca, dx, ys, h1, h2, h3, _⟩ := r
  exact ⟨p, ca, dx, _, h1, h2, h3⟩
theorem bin_any {X : Cx} {sc wsc : Scope} (g : Good X N sc wsc k cl T C S) {ρ : List Addr} {L : LH} {H : Hp} (em : Em X.K cl ρ L H) {op : BOp} {o : Operator} (ho : isBop op o = true) (hS : ∀ m, dunB op = some m → S.dun m = true) {x y : LV} {x' y' : V} {Q : VK} (rx : RV X.K cl ρ H x x') (ry : RV X.K cl ρ H y y')
    (h : Rd X.K cl ρ H (binO C op x y L) (RV X.K cl) Q) : ∃ r, OpR X (binaryOp o) r ∧ r x' y' H Q := by
  rcases binO_or C op x y L with ⟨c, n, a, n', a', rfl, rfl, m, hm, e⟩ | e | e
  · rw [e] at h
    obtain ⟨p, ca, dx, fs, rfl, hc, hp⟩ := ob_ins rx
    obtain ⟨q, ca', dy, gs, rfl, hc', hq⟩ := ob_ins ry
    rw [hc] at hc'; cases hc'
    rcases g.fc.dun m (hS m hm) c ca hc with hst | ⟨fa, fd, ps, D, F, fl⟩
    · rw [hst] at h; exact h.stuck.elim
    · have hmm : PySem.dunder o.info.2 = Str.ofString m := by
        cases op <;> simp [dunB] at hm <;> subst hm <;> cases o <;> first | (exact absurd ho (by decide)) | rfl | decide
      refine ⟨_, op_own D hmm F (g.room.mono (Nat.le_succ _)) (fill_nil fl), p, q, dx, dy, fs, gs, rfl, rfl, hp, hq, ρ, [.ob c n a, .ob c n' a'], L, em, ⟨_, _, rfl, rx, _, _, rfl, ry, rfl⟩, ?_⟩
      obtain ⟨v, L', e1, q⟩ := h
      cases hC : C (c ++ "." ++ m) [.ob c n a, .ob c n' a'] L with
      | stuck => rw [hC] at e1; cases e1
      | ok w L1 =>
        rw [hC, R.bind_ok] at e1
        cases w with
        | ob c2 n2 a2 =>
          cases e1
          refine ⟨_, _, rfl, fun ρ' H' v' n1 em1 rv => ?_⟩
          obtain ⟨r, _, _, _, e2, _⟩ := ob_ins rv
          exact ⟨⟨r, e2⟩, q ρ' H' v' n1 em1 rv⟩
        | _ => cases e1
  · rw [e] at h; exact bin_ok rfl em ho rx ry h
  · rw [e] at h; exact h.stuck.elim
theorem cmp_any {X : Cx} {sc wsc : Scope} (g : Good X N sc wsc k cl T C S) {ρ : List Addr} {L : LH} {H : Hp} (em : Em X.K cl ρ L H) {op : COp} {o : CmpOp} (ho : isCop op o = true) (hS : (op = .inn ∨ op = .nin) → S.dun "__contains__" = true) {x y : LV} {x' y' : V} {Q : VK} (rx : RV X.K cl ρ H x x') (ry : RV X.K cl ρ H y y')
    (h : Rd X.K cl ρ H (cmpO C op x y L) (RV X.K cl) Q) : ∃ r, OpR X (compareOp o) r ∧ r x' y' H Q := by
  have plain : ∀ {L}, Em X.K cl ρ L H → Rd X.K cl ρ H (R.of ((cmpV op x y L).map .bl) L) (RV X.K cl) Q → ∃ r, OpR X (compareOp o) r ∧ r x' y' H Q := by
    intro L em h
    obtain ⟨v, hv, rd⟩ := h.of
    obtain ⟨c, hc, rfl⟩ := Option.map_eq_some_iff.mp hv
    obtain ⟨rr, hr, q⟩ := cmp_ok rfl g.room.units em ho rx ry hc
    exact ⟨rr, hr, q Q (rd.ok em rfl)⟩
  cases y with
  | ob c n a =>
    obtain ⟨q, ca, dy, gs, rfl, hc, hq⟩ := ob_ins ry
    have own : ∀ (b : Bool), (op = .inn ∨ op = .nin) → Rd X.K cl ρ H ((C (c ++ "." ++ "__contains__") [.ob c n a, x] L).bind (notV b)) (RV X.K cl) Q →
        (∃ fa fd ps, Dun X.K ca fa "__contains__" ∧ FnOk X.prog X.w X.K X.mg X.base CX0 k fa fd ps (spS X.K cl (C (c ++ "." ++ "__contains__"))) ∧ Binds X.K fd ps [] ∧ rOwnIn b ca fa (spS X.K cl (C (c ++ "." ++ "__contains__"))) x' (.ref q) H Q) := by
      intro b hb h
      rcases g.fc.dun _ (hS hb) c ca hc with hst | ⟨fa, fd, ps, D, F, fl⟩
      · rw [hst] at h; exact h.stuck.elim
      · refine ⟨fa, fd, ps, D, F, fill_nil fl, q, dy, gs, rfl, hq, ρ, [.ob c n a, x], L, em, ⟨_, _, rfl, ry, _, _, rfl, rx, rfl⟩, ?_⟩
        obtain ⟨v, L', e1, q⟩ := h
        cases hC : C (c ++ "." ++ "__contains__") [.ob c n a, x] L with
        | stuck => rw [hC] at e1; cases e1
        | ok w L1 =>
          rw [hC, R.bind_ok] at e1
          cases w with
          | bl r =>
            cases e1
            refine ⟨_, _, rfl, fun ρ' H' v' n1 em1 rv => ?_⟩
            cases rv
            exact ⟨r, rfl, q ρ' H' _ n1 em1 rfl⟩
          | _ => cases e1
    have plain' := @plain L em
    cases op <;> first | (exact h.stuck.elim) | skip
    · cases o <;> first | (exact absurd ho (by decide)) | skip
      obtain ⟨fa, fd, ps, D, F, fl, r⟩ := own true (.inl rfl) h
      exact ⟨_, op_ownIn D F (g.room.mono (Nat.le_succ _)) fl, r⟩
    · cases o <;> first | (exact absurd ho (by decide)) | skip
      obtain ⟨fa, fd, ps, D, F, fl, r⟩ := own false (.inr rfl) h
      exact ⟨_, op_ownNotIn D F (g.room.mono (Nat.le_succ _)) fl, r⟩
  | _ => exact plain em h
theorem cmp_read {X : Cx} {sc wsc : Scope} (g : Good X N sc wsc k cl T C S) {op : COp} {o : CmpOp} (ho : isCop op o = true) (hS : (op = .inn ∨ op = .nin) → S.dun "__contains__" = true) {a b : Ex} {σ : L2.St} {H : Hp} {Q : VK} (h : rdE X.K cl T C (.cmp op a b) σ H Q) :
    tOp (rAny2 X (compareOp o)) (rdE X.K cl T C a) (rdE X.K cl T C b) σ H Q := by
  obtain ⟨ρ, s, L, em, rs, rd⟩ := h
  simp only [evE] at rd
  refine ⟨ρ, s, L, em, rs, (rd.bind (RV X.K cl)).imp fun x' H1 ⟨ρ1, x, L1, n1, em1, rx, rd⟩ => ⟨ρ1, s, L1, em1, rs.nx em n1, (rd.bind (RV X.K cl)).imp fun y' H2 ⟨ρ2, y, L2, n2, em2, ry, rd⟩ => ?_⟩⟩
  exact cmp_any g em2 ho hS (rx.nx em1 n2) ry rd
theorem chn_read {X : Cx} (hu : X.A.units + 64 < cLine) {o1 o2 : COp} {p1 p2 : CmpOp} (h1 : isCop o1 p1 = true) (h2 : isCop o2 p2 = true) {a b c : Ex} {σ : L2.St} {H : Hp} {Q : VK} (h : rdE X.K cl T C (.chn o1 o2 a b c) σ H Q) :
    tChain (rAny2 X (compareOp p1)) (rAny2 X (compareOp p2)) (rdE X.K cl T C a) (rdE X.K cl T C b) (rdE X.K cl T C c) σ H Q := by
  obtain ⟨ρ, s, L, em, rs, rd⟩ := h
  simp only [evE] at rd
  refine ⟨ρ, s, L, em, rs, (rd.bind (RV X.K cl)).imp fun x' H1 ⟨ρ1, x, L1, n1, em1, rx, rd⟩ => ⟨ρ1, s, L1, em1, rs.nx em n1, (rd.bind (RV X.K cl)).imp fun y' H2 ⟨ρ2, y, L2, n2, em2, ry, rd⟩ => ?_⟩⟩
  have rd := rd.bind (β := Bool) RB
  obtain ⟨bb, hbb, rd⟩ := rd.of
  have rd := rd.ok em2 (v := bb) rfl
  obtain ⟨ρ3, b3, L3, n3, em3, e3, rd⟩ := rd
  cases e3
  obtain ⟨rr, hr, q⟩ := cmp_ok rfl hu em2 h1 (rx.nx em1 n2) ry hbb
  refine ⟨rr, hr, q _ ⟨_, rfl, ?_⟩⟩
  cases bb with
  | true =>
    rw [if_pos rfl] at rd ⊢
    refine ⟨ρ3, s, L3, em3, ((rs.nx em n1).nx em1 n2).nx em2 n3, (rd.bind (RV X.K cl)).imp fun z' H4 ⟨ρ4, z, L4, n4, em4, rz, rd⟩ => ?_⟩
    obtain ⟨v, hv, rd⟩ := rd.of
    obtain ⟨c, hc, rfl⟩ := Option.map_eq_some_iff.mp hv
    obtain ⟨rr, hr, q⟩ := cmp_ok rfl hu em4 h2 ((ry.nx em2 n3).nx em3 n4) rz hc
    exact ⟨rr, hr, q Q (rd.ok em4 rfl)⟩
  | false =>
    rw [if_neg Bool.false_ne_true] at rd ⊢
    exact rd.ok em3 rfl
theorem asB_ite {X : Cx} {c a b : Ex} {s : Sl} {L : LH} : evE T C (.ite c a b) s L = ((evE T C c s L).bind asB).bind fun k L1 => if k = true then evE T C a s L1 else evE T C b s L1 := by
  simp only [evE]
  cases evE T C c s L with
  | stuck => rfl
  | ok v L1 => cases v with
    | bl b => cases b <;> rfl
    | _ => rfl
theorem asB_and {c a : Ex} {s : Sl} {L : LH} : (evE T C (.and c a) s L).bind asB = ((evE T C c s L).bind asB).bind fun k L1 => if k = true then (evE T C a s L1).bind asB else .ok false L1 := by
  simp only [evE]
  cases evE T C c s L with
  | stuck => rfl
  | ok v L1 => cases v with
    | bl b => cases b with
      | false => rfl
      | true =>
        simp only [R.bind_ok, asB, if_true]
        cases evE T C a s L1 with
        | stuck => rfl
        | ok v L1 => cases v <;> rfl
    | _ => rfl
theorem asB_or {c a : Ex} {s : Sl} {L : LH} : (evE T C (.or c a) s L).bind asB = ((evE T C c s L).bind asB).bind fun k L1 => if k = true then .ok true L1 else (evE T C a s L1).bind asB := by
  simp only [evE]
  cases evE T C c s L with
  | stuck => rfl
  | ok v L1 => cases v with
    | bl b => cases b with
      | true => rfl
      | false =>
        simp only [R.bind_ok, asB, Bool.false_eq_true, if_false]
        cases evE T C a s L1 with
        | stuck => rfl
        | ok v L1 => cases v <;> rfl
    | _ => rfl
theorem asB_not {a : Ex} {s : Sl} {L : LH} : (evE T C (.not a) s L).bind asB = ((evE T C a s L).bind asB).bind fun k L1 => .ok (!k) L1 := by
  simp only [evE]
  cases evE T C a s L with
  | stuck => rfl
  | ok v L1 => cases v <;> rfl
theorem R.bind_assoc {α β γ : Type} (r : R α) (f : α → LH → R β) (g : β → LH → R γ) : (r.bind f).bind g = r.bind fun a L => (f a L).bind g := by
  cases r <;> rfl
/-- a call's base is looked at, and nothing comes of it -/
theorem pe_dead {X : Cx} {o : Expr} {m : Str} {apos pos : Pos} {es : List Expr} {t : TE} {f : Value → Sem Value} (he : PE X o t) (form : eval (.Call (.Attribute o m apos) es [] pos) X.env = (eval o X.env >>= f)) :
    PE X (.Call (.Attribute o m apos) es [] pos) (fun σ H _ => t σ H fun _ _ => False) :=
  ⟨fun pins s σ H Q I h => by
    rw [form]
    exact wpAny_bind (thn (he.run pins s σ H _ I h) fun v s1 ⟨_, _, _, _, f⟩ => f.elim)⟩
def rAnyIx (X : Cx) : R2 := fun x y H Q => ∃ r, IxR X r ∧ r x y H Q
theorem ix_any {X : Cx} : IxR X (rAnyIx X) := fun value slice pins s σ H x y v u Q I rx ry ⟨_, ho, h⟩ => ho value slice pins s σ H x y v u Q I rx ry h
def rAnySl (X : Cx) : V → Option Int → Option Int → Hp → VK → Prop := fun x lo hi H Q => ∃ r, SlR X r ∧ r x lo hi H Q
theorem sl_any {X : Cx} : SlR X (rAnySl X) := fun pins s σ H x v vl vu lo hi sl Q I rx hs pl pu ⟨_, ho, h⟩ => ho pins s σ H x v vl vu lo hi sl Q I rx hs pl pu h
def rAnyM (X : Cx) (id : String) : V → List V → Hp → VK → Prop := fun x xs H Q => ∃ r, MtM X id r ∧ r x xs H Q
theorem mt_any {X : Cx} {id : String} : MtR X id (rAnyM X id) := fun pins s σ H x xs v us Q I rx rs ⟨_, ho, h⟩ => ho pins s σ H x xs v us Q I rx rs h
theorem at_rv {K : PySem.W.Frag} {ρ : List Addr} {H : Hp} {xs : List LV} {ys : List V} (r : RVs K cl ρ H xs ys) {i : Int} {v : LV} (h : ((ixL xs.length i).bind fun j => xs[j]?) = some v) : ∃ v', atI ys i = some v' ∧ RV K cl ρ H v v' := by
  obtain ⟨j, h1, h2⟩ := Option.bind_eq_some_iff.mp h
  obtain ⟨v', h3, h4⟩ := r.get h2
  refine ⟨v', ?_, h4⟩
  unfold atI
  rw [r.len, show ixN xs.length i = some j from h1]
  exact h3
theorem plain_ix {b : Expr} (h : ∀ l u s q, b ≠ .Slice l u s q) : PlainIx b := by
  intro o i
  cases b with
  | Slice l u s q => exact absurd rfl (h l u s q)
  | _ => rfl

/-! ### stores, walks, comprehensions -/
theorem PI.ex {X : Cx} {tg e : Expr} {t : TI} (h : ∀ σ H R, t σ H R → ∃ u, PI X tg e u ∧ u σ H R) : PI X tg e t :=
  ⟨fun pins s σ H R I q => let ⟨_, p, q'⟩ := h σ H R q; p.run pins s σ H R I q'⟩
theorem wipe_set {σ : L2.St} {i : Nat} {x : Option V} : ∀ {own : List Nat}, i ∈ own → L2.wipe (σ.set i x) own = L2.wipe σ own
  | [], h => by cases h
  | v :: vs, h => by
    unfold L2.wipe
    by_cases hv : i ∈ vs
    · rw [wipe_set hv]
    · have e : i = v := by
        rcases List.mem_cons.mp h with e | e
        · exact e
        · exact absurd e hv
      subst e
      have : ∀ {vs : List Nat}, i ∉ vs → L2.wipe (σ.set i x) vs = (L2.wipe σ vs).set i x := by
        intro vs
        induction vs with
        | nil => intro _; rfl
        | cons w ws ih =>
          intro hw
          unfold L2.wipe
          have h1 : i ≠ w := fun z => hw (by rw [z]; exact List.mem_cons_self)
          rw [ih (fun z => hw (List.mem_cons_of_mem _ z)), List.set_comm _ _ h1]
      rw [this hv, List.set_set]
theorem wipe_in {σ : L2.St} {i : Nat} : ∀ {own : List Nat}, i ∈ own → (L2.wipe σ own)[i]? = if i < σ.length then some none else none
  | [], h => by cases h
  | v :: vs, h => by
    unfold L2.wipe
    by_cases e : v = i
    · subst e
      by_cases hl : v < σ.length
      · rw [if_pos hl, List.getElem?_set_self (by rw [L2.wipe_length]; exact hl)]
      · rw [if_neg hl, List.getElem?_eq_none (by rw [List.length_set, L2.wipe_length]; omega)]
    · rw [List.getElem?_set_ne e]
      exact wipe_in (by
        rcases List.mem_cons.mp h with z | z
        · exact absurd z.symm e
        · exact z)
theorem wipe_wipe {σ : L2.St} {own : List Nat} : L2.wipe (L2.wipe σ own) own = L2.wipe σ own := by
  apply List.ext_getElem?
  intro i
  by_cases h : i ∈ own
  · rw [wipe_in h, wipe_in h, L2.wipe_length]
  · rw [L2.wipe_out h]
theorem wipeL_len {s : Sl} : ∀ {own : List Nat}, (wipeL s own).length = s.length
  | [] => rfl
  | v :: vs => by unfold wipeL; rw [List.length_set, wipeL_len]
theorem wipeL_some {s : Sl} {i : Nat} {x : LV} : ∀ {vs : List Nat}, (wipeL s vs)[i]? = some (some x) → s[i]? = some (some x) ∧ i ∉ vs
  | [], h => ⟨h, by simp⟩
  | v :: vs, h => by
    unfold wipeL at h
    by_cases hi : v = i
    · subst hi
      by_cases hv : v < (wipeL s vs).length
      · rw [List.getElem?_set_self hv] at h; cases h
      · rw [List.getElem?_eq_none (by simpa using hv)] at h; cases h
    · rw [List.getElem?_set_ne hi] at h
      obtain ⟨h1, h2⟩ := wipeL_some h
      exact ⟨h1, by simp only [List.mem_cons, not_or]; exact ⟨fun e => hi e.symm, h2⟩⟩
theorem RS.wipe {K : PySem.W.Frag} {ρ : List Addr} {H : Hp} {s : Sl} {σ : L2.St} (r : RS K cl ρ H s σ) (own : List Nat) : RS K cl ρ H (wipeL s own) (L2.wipe σ own) := by
  refine ⟨by rw [wipeL_len, L2.wipe_length, r.1], fun i v h => ?_⟩
  obtain ⟨h1, h2⟩ := wipeL_some h
  rw [L2.wipe_out h2]
  exact r.2 i v h1
theorem Good.blk {X : Cx} {sc wsc : Scope} (g : Good X N sc wsc k cl T C S) (scope : Scope) (s : Shared) (H : Hp) (c : Addr) (cs : List (Str × Addr)) (fp : List Addr) :
    Good (X.blk s H scope (compEnvC scope cs c X.env) fp) N (relS scope sc) scope k cl T C S where
  hsc := by
    have := g.hsc
    subst this
    rfl
  N := g.N
  nd := g.nd
  calm := g.calm
  room := g.room
  fc := g.fc
  never := rfl
  fn := by
    intro x hx
    unfold locB at hx
    split at hx
    · rename_i q
      have q' : (relS scope X.env.scope).names.lookup x = some .local := L2.lookup_relS_keep (by decide) q
      exact ⟨.inl q', .inr q'⟩
    · rename_i q
      have q' : (relS scope X.env.scope).names.lookup x = some .cell := L2.lookup_relS_keep (by decide) q
      refine ⟨.inr q', .inl ?_⟩
      show (scope.names.lookup x == some .cell) = true
      rw [q]; rfl
    · cases hx
theorem own_snd : ∀ (own : List Nat), (own.map fun i => (N.getD i Str.empty, i)).map (·.2) = own
  | [] => rfl
  | v :: vs => by rw [List.map_cons, List.map_cons, own_snd vs]
theorem isG_star {sc wsc : Scope} {t : Tg} {e : Expr} (h : isG N S sc wsc t e = true) : ∀ es env, assignEach (e :: es) env = (false, assign e env) :: assignEach es env := by
  intro es env
  cases e with
  | Starred v p => cases t <;> simp [isG] at h
  | _ => rfl
theorem isGs_each {sc wsc : Scope} : ∀ {ts : List Tg} {es : List Expr}, isGs N S sc wsc ts es = true → ∀ env, (assignEach es env).length = ts.length ∧ (assignEach es env).findIdx? (·.1) = none
  | [], [], h, env => ⟨rfl, rfl⟩
  | [], _ :: _, h, env => by simp [isGs] at h
  | _ :: _, [], h, env => by simp [isGs] at h
  | t :: ts, e :: es, h, env => by
    simp only [isGs, Bool.and_eq_true] at h
    obtain ⟨h1, h2⟩ := isGs_each h.2 env
    rw [isG_star h.1]
    refine ⟨by rw [List.length_cons, List.length_cons, h1], ?_⟩
    rw [List.findIdx?_cons, h2]
    rfl
theorem evGs_len {T : Tbl} {C : Orc} : ∀ {ts : List Tg} {vs : List LV} {s : Sl} {L : LH} {s' : Sl} {L' : LH}, evGs T C ts vs s L = .ok s' L' → vs.length = ts.length
  | [], [], s, L, s', L', h => rfl
  | [], _ :: _, s, L, s', L', h => by simp [evGs] at h
  | _ :: _, [], s, L, s', L', h => by simp [evGs] at h
  | t :: ts, v :: vs, s, L, s', L', h => by
    simp only [evGs] at h
    cases h1 : evG T C t v s L with
    | stuck => rw [h1] at h; cases h
    | ok s1 L1 =>
      rw [h1, R.bind_ok] at h
      rw [List.length_cons, List.length_cons, evGs_len h]
/-- o.f = v -/
def gFld (K : PySem.W.Frag) (to : TE) (f : Str) : TG := fun v σ H Q => to σ H fun x H1 => ∃ a C dx fs, x = .ref a ∧ H1 a = some (.ins C dx fs) ∧ Cls K C ∧ NoAttr K C f ∧ fs.length < 1000 ∧ Q σ (upd H1 a (.ins C dx (putF f v fs)))
theorem pg_fld {X : Cx} {o : Expr} {f : Str} {pos : Pos} {to : TE} (ho : PE X o to) : PG X (.Attribute o f pos) (gFld X.K to f) := by
  refine ⟨fun pins s σ H v u Q I r h => ?_⟩
  rw [arm_assign_Attribute]
  refine wpAny_bind (wpAny_holding (thn (ho.run pins s σ H _ I h) fun ov s1 ⟨x, H1, I1, r1, a, C, dx, fs, e, ea, c, n, l, q1⟩ => ?_))
  subst e
  obtain rfl : ov = Value.ref a := r1
  refine wpAny_bind (wpAny_standAt (wpAny_bind (wpAny_holding (setattr_ok I1 ea c n l r fun s2 I2 => ?_))))
  exact wpAny_release ⟨σ, _, I2, q1⟩
theorem put_rfs {K : PySem.W.Frag} {ρ : List Addr} {H : Hp} {f : String} {v : LV} {y : V} (rv : RV K cl ρ H v y) : ∀ {fs : List (String × LV)} {ys : List (Str × V)}, RFs K cl ρ H fs ys → RFs K cl ρ H (putFL f v fs) (putF (Str.ofString f) y ys)
  | [], ys, r => by
    rw [show ys = [] from r]
    exact ⟨y, [], rfl, rv, rfl⟩
  | (g, x) :: fs, ys, r => by
    obtain ⟨z, t, rfl, h1, h2⟩ := r
    by_cases e : f = g
    · subst e
      simp only [putFL, if_true]
      refine ⟨y, t, ?_, rv, h2⟩
      simp [putF]
    · have ne : ¬ Str.ofString f = Str.ofString g := by simp [ofS_inj, e]
      simp only [putFL, if_neg e]
      refine ⟨z, _, ?_, h1, put_rfs rv h2⟩
      simp [putF, Ne.symm ne]
theorem RFs.len {K : PySem.W.Frag} {ρ : List Addr} {H : Hp} : ∀ {fs : List (String × LV)} {ys : List (Str × V)}, RFs K cl ρ H fs ys → ys.length = fs.length
  | [], ys, r => by rw [show ys = [] from r]; rfl
  | (g, x) :: fs, ys, r => by
    obtain ⟨z, t, rfl, h1, h2⟩ := r
    rw [List.length_cons, List.length_cons, RFs.len h2]
theorem sub_form {X : Cx} {o i : Expr} {pos : Pos} (h : ∀ l u s q, i ≠ .Slice l u s q) : ∀ v, assign (.Subscript o i pos) X.env v = (do
      let ov ← holding [v] (eval o X.env)
      let iv ← holding [v, ov] (eval i X.env)
      standAt pos
      holding [v, ov, iv] (setItem ov iv v)
      release [v, ov, iv] []) := by
  intro v
  cases i with
  | Slice l u s q => exact absurd rfl (h l u s q)
  | _ => rfl
theorem wk_list {K : PySem.W.Frag} {ρ1 : List Addr} {H1 : Hp} {i : Nat} {a : Addr} {xs : List LV} (ha : ρ1[i]? = some a) : Wk K cl (L2.Itl K a) xs (some (i, xs)) ρ1 H1 where
  go := by
    intro j x ρ' L' H' n em hc hx
    simp only [chkOk, decide_eq_true_eq] at hc
    obtain ⟨ys, hH, rs⟩ := em.obj i _ a hc (pre_get n.pre ha)
    obtain ⟨v', h1, h2⟩ := rs.get hx
    refine ⟨⟨ys, v', SqL.of hH, h1⟩, fun v H'' hy => ?_⟩
    obtain ⟨rfl, hv⟩ := hy
    have e := hv ys (SqL.of hH)
    rw [h1] at e
    cases e
    exact ⟨em, Nx.refl, h2⟩
  stop := by
    intro ρ' L' H' n em hc
    simp only [chkOk, decide_eq_true_eq] at hc
    obtain ⟨ys, hH, rs⟩ := em.obj i _ a hc (pre_get n.pre ha)
    exact ⟨ys, SqL.of hH, by rw [rs.len]; exact Nat.le_refl _⟩
theorem wk_fl {K : PySem.W.Frag} {ρ1 : List Addr} {H1 : Hp} {L1 : LH} {a : Addr} {xs : List LV} {ys : List V} (em1 : Em K cl ρ1 L1 H1) (f : FzL K ρ1 H1 a ys) (rs : RVs K cl ρ1 H1 xs ys) : Wk K cl (L2.Itl K a) xs none ρ1 H1 where
  go := by
    intro j x ρ' L' H' n em hc hx
    have f' := FzL.nx em1 n f
    have rs := RVs.nx em1 n rs
    obtain ⟨v', h1, h2⟩ := rs.get hx
    refine ⟨⟨ys, v', f'.sq, h1⟩, fun v H'' hy => ?_⟩
    obtain ⟨rfl, hv⟩ := hy
    have e := hv ys f'.sq
    rw [h1] at e
    cases e
    exact ⟨em, Nx.refl, h2⟩
  stop := by
    intro ρ' L' H' n em hc
    exact ⟨ys, (FzL.nx em1 n f).sq, by rw [rs.len]; exact Nat.le_refl _⟩
theorem wk_tup {K : PySem.W.Frag} {ρ1 : List Addr} {H1 : Hp} {L1 : LH} {a : Addr} {xs : List LV} {ys : List V} (em1 : Em K cl ρ1 L1 H1) (f : SqT K H1 a ys) (rs : RVs K cl ρ1 H1 xs ys) : Wk K cl (L2.Itt K a) xs none ρ1 H1 where
  go := by
    intro j x ρ' L' H' n em hc hx
    have f' := SqT.nx em1 n f
    have rs := RVs.nx em1 n rs
    obtain ⟨v', h1, h2⟩ := rs.get hx
    refine ⟨⟨ys, v', f', h1⟩, fun v H'' hy => ?_⟩
    obtain ⟨rfl, hv⟩ := hy
    have e := hv ys f'
    rw [h1] at e
    cases e
    exact ⟨em, Nx.refl, h2⟩
  stop := by
    intro ρ' L' H' n em hc
    exact ⟨ys, SqT.nx em1 n f, by rw [rs.len]; exact Nat.le_refl _⟩
theorem wk_rng {K : PySem.W.Frag} {ρ1 : List Addr} {H1 : Hp} {lo : Int} {m : Nat} : Wk K cl (L2.Itr lo m) ((List.range m).map fun (k : Nat) => .int (lo + k)) none ρ1 H1 where
  go := by
    intro j x ρ' L' H' n em hc hx
    rw [List.getElem?_map] at hx
    obtain ⟨q, h1, rfl⟩ := Option.map_eq_some_iff.mp hx
    obtain ⟨h2, h3⟩ := List.getElem?_eq_some_iff.mp h1
    simp at h2 h3
    subst h3
    refine ⟨h2, fun v H'' hy => ?_⟩
    obtain ⟨rfl, rfl⟩ := hy
    exact ⟨em, Nx.refl, rfl⟩
  stop := by
    intro ρ' L' H' n em hc
    simp [L2.Itr]
theorem enm_go {K : PySem.W.Frag} {ρ' : List Addr} {L' : LH} {H' : Hp} {a : Addr} {xs : List LV} {ys : List V} {j : Nat} {x : LV} (em : Em K cl ρ' L' H') (sq : SqL K H' a ys) (rs : RVs K cl ρ' H' xs ys) (hx : (xs.mapIdx fun i x => LV.tup [.int i, x])[j]? = some x) :
    (L2.Ite K a).go j H' ∧ ∀ v H'', (L2.Ite K a).yld j H' v H'' → Em K cl ρ' L' H'' ∧ Nx ρ' ρ' H' H'' ∧ RV K cl ρ' H'' x v := by
  rw [List.getElem?_mapIdx] at hx
  obtain ⟨q, h1, rfl⟩ := Option.map_eq_some_iff.mp hx
  obtain ⟨v', h2, h3⟩ := rs.get h1
  refine ⟨⟨ys, v', sq, h2⟩, fun v H'' hy => ?_⟩
  obtain ⟨t, y, rfl, ht, rfl, hv⟩ := hy
  have e := hv ys sq
  rw [h2] at e
  cases e
  obtain ⟨em', nx⟩ := em.laid (u := .tup [.int j, v']) ht
  exact ⟨em', nx, t, [.int j, v'], rfl, SqT.of upd_same, _, _, rfl, rfl, _, _, rfl, RV.nx em nx h3, rfl⟩
theorem wk_enm {K : PySem.W.Frag} {ρ1 : List Addr} {H1 : Hp} {i : Nat} {a : Addr} {xs : List LV} (ha : ρ1[i]? = some a) : Wk K cl (L2.Ite K a) (xs.mapIdx fun i x => .tup [.int i, x]) (some (i, xs)) ρ1 H1 where
  go := by
    intro j x ρ' L' H' n em hc hx
    simp only [chkOk, decide_eq_true_eq] at hc
    obtain ⟨ys, hH, rs⟩ := em.obj i _ a hc (pre_get n.pre ha)
    exact enm_go em (SqL.of hH) rs hx
  stop := by
    intro ρ' L' H' n em hc
    simp only [chkOk, decide_eq_true_eq] at hc
    obtain ⟨ys, hH, rs⟩ := em.obj i _ a hc (pre_get n.pre ha)
    exact ⟨ys, SqL.of hH, by rw [List.length_mapIdx, rs.len]; exact Nat.le_refl _⟩
theorem wk_enmF {K : PySem.W.Frag} {ρ1 : List Addr} {H1 : Hp} {L1 : LH} {a : Addr} {xs : List LV} {ys : List V} (em1 : Em K cl ρ1 L1 H1) (f : FzL K ρ1 H1 a ys) (rs : RVs K cl ρ1 H1 xs ys) : Wk K cl (L2.Ite K a) (xs.mapIdx fun i x => .tup [.int i, x]) none ρ1 H1 where
  go := by
    intro j x ρ' L' H' n em hc hx
    exact enm_go em (FzL.nx em1 n f).sq (RVs.nx em1 n rs) hx
  stop := by
    intro ρ' L' H' n em hc
    exact ⟨ys, (FzL.nx em1 n f).sq, by rw [List.length_mapIdx, rs.len]; exact Nat.le_refl _⟩
theorem fold_of {sc : Scope} {tg e : Expr} {I : It} (h : isI N S sc tg I e = true) (env : Env) : ∀ x, foldedSetIterable e env x = pure x := by
  intro x
  cases e with
  | Set a b c =>
    exfalso
    cases I with
    | of E => simp only [isI] at h; exact no_set E h
    | rng xs => rcases xs with _ | ⟨_, _ | ⟨_, _ | ⟨_, _⟩⟩⟩ <;> simp [isI] at h
    | _ => simp [isI] at h
  | _ => rfl
/-- a list comprehension's reading -/
theorem lc_read {K : PySem.W.Frag} {elt : Ex} {tg : Tg} {src : It} {cond : Option Ex} {own : List Nat} {σ : L2.St} {H : Hp} {Q : VK} (hown : ∀ i ∈ tgN tg, i ∈ own) (h : rdE K cl T C (.cpr elt tg src cond own) σ H Q) :
    tLc (rdI K cl T C src) (rdG K cl T C tg) (rdC K cl T C cond) (rdE K cl T C elt) own σ H Q := by
  obtain ⟨ρ, s, L, em, rs, v, L', he, q⟩ := h
  simp only [evE] at he
  cases h1 : evI T C src s L with
  | stuck => rw [h1] at he; cases he
  | ok p L1 =>
  rw [h1, R.bind_ok] at he
  generalize hf : (fun x L => (evG T C tg x (wipeL s own) L).bind fun s' L' => (evC T C cond s' L').bind fun b L2 => if b = true then (evE T C elt s' L2).bind fun y L3 => .ok (some y) L3 else .ok none L2) = f at he
  obtain ⟨xs, c⟩ := p
  simp only at he
  cases h2 : cprL f c L1.length xs (L1 ++ [.lst []]) with
  | stuck => rw [h2] at he; cases he
  | ok u Lz =>
  rw [h2, R.bind_ok] at he
  injection he with z1 z2
  subst z1; subst z2
  refine ⟨ρ, s, L, em, rs, (xs, c), L1, h1, fun ρ1 H1 J n1 em1 wk D hD => ?_⟩
  obtain ⟨em2, n2⟩ := em1.new (u := .lst []) (o := .lst []) hD rfl ⟨[], upd_same, rfl⟩
  have hd : (ρ1 ++ [D])[L1.length]? = some D := by
    rw [List.getElem?_append_right (by rw [em1.len]; exact Nat.le_refl _), em1.len, Nat.sub_self]
    rfl
  refine ⟨fun i m H => m = xs.length - i ∧ i ≤ xs.length ∧ ∃ ρ' L', Nx (ρ1 ++ [D]) ρ' (upd H1 D (.lst [])) H ∧ Em K cl ρ' L' H ∧ cprL f c L1.length (xs.drop i) L' = .ok u Lz,
    ⟨xs.length, by omega, Nat.zero_le _, ρ1 ++ [D], _, Nx.refl, em2, h2⟩, ?_⟩
  rintro i m H2 ⟨hm, hi, ρ', L', nx, em', hc⟩
  have nx1 := n2.trans nx
  by_cases hlt : i < xs.length
  · refine .inr ?_
    rw [List.drop_eq_getElem_cons hlt, cprL] at hc
    have hx : xs[i]? = some xs[i] := List.getElem?_eq_getElem hlt
    by_cases hk : chkOk c L' = true
    · rw [if_pos hk] at hc
      obtain ⟨go, yld⟩ := wk.go i _ ρ' L' H2 nx1 em' hk hx
      refine ⟨go, fun H' => ∃ ρ' L', Nx (ρ1 ++ [D]) ρ' (upd H1 D (.lst [])) H' ∧ Em K cl ρ' L' H' ∧ cprL f c L1.length (xs.drop (i + 1)) L' = .ok u Lz, ?_, ?_⟩
      · rintro H' ⟨ρ4, L4, n4, em4, c4⟩
        exact ⟨xs.length - (i + 1), by omega, rfl, hlt, ρ4, L4, n4, em4, c4⟩
      · intro x' H3 hy
        obtain ⟨em3, n3, rx⟩ := yld x' H3 hy
        have rs3 : RS K cl ρ' H3 s σ := (((rs.nx em n1).nx em1 n2).nx em2 nx).nx em' n3
        -- what the turn gives
        have rd0 : Rd K cl ρ' H3 (f xs[i] L') (fun ρ H o (o' : Option V) => match o, o' with | none, none => True | some y, some y' => RV K cl ρ H y y' | _, _ => False)
            (fun o' H4 => match o' with
              | none => ∃ ρ' L', Nx (ρ1 ++ [D]) ρ' (upd H1 D (.lst [])) H4 ∧ Em K cl ρ' L' H4 ∧ cprL f c L1.length (xs.drop (i + 1)) L' = .ok u Lz
              | some y' => ∃ acc, H4 D = some (.lst acc) ∧ acc.length < sizeLine ∧ ∃ ρ' L', Nx (ρ1 ++ [D]) ρ' (upd H1 D (.lst [])) (upd H4 D (.lst (acc ++ [y']))) ∧ Em K cl ρ' L' (upd H4 D (.lst (acc ++ [y']))) ∧ cprL f c L1.length (xs.drop (i + 1)) L' = .ok u Lz) := by
          cases hfx : f xs[i] L' with
          | stuck => rw [hfx] at hc; cases hc
          | ok o L4 =>
            rw [hfx] at hc
            refine ⟨o, L4, rfl, fun ρ4 H4 o' n4 em4 ro => ?_⟩
            have n4' := (nx.trans n3).trans n4
            cases o with
            | none =>
              cases o' with
              | none => exact ⟨ρ4, L4, n4', em4, hc⟩
              | some _ => exact ro.elim
            | some y =>
              cases o' with
              | none => exact ro.elim
              | some y' =>
                simp only at hc
                split at hc
                · rename_i acc hL
                  split at hc
                  · rename_i hb
                    have hD4 := pre_get n4'.pre hd
                    obtain ⟨ys, hH, ra⟩ := em4.obj _ _ D hL hD4
                    obtain ⟨em5, n5⟩ := put_lst em4 hD4 (ra.app (RVs.one ro))
                    exact ⟨ys, hH, by rw [ra.len]; exact lt_line hb, ρ4, _, n4'.trans n5, em5, hc⟩
                  · cases hc
                · cases hc
        subst hf
        refine ⟨ρ', wipeL s own, L', xs[i], em3, rs3.wipe own, rx, (rd0.bind (RG K cl (tgN tg) (L2.wipe σ own))).imp fun σ2 H4 ⟨ρ4, s4, L4, n4, em4, ⟨rs4, hw⟩, rd⟩ => ⟨?_, ρ4, s4, L4, em4, rs4, (rd.bind RB).imp fun b H5 ⟨ρ5, b', L5, n5, em5, eb, rd⟩ => ?_⟩⟩
        · rw [hw own hown, wipe_wipe]
        · cases eb
          cases b with
          | true =>
            rw [if_pos rfl] at rd ⊢
            refine ⟨ρ5, s4, L5, em5, rs4.nx em4 n5, (rd.bind (RV K cl)).imp fun y' H6 ⟨ρ6, y, L6, n6, em6, ry, rd⟩ => ?_⟩
            exact rd.ok em6 (v := some y') ry
          | false =>
            rw [if_neg Bool.false_ne_true] at rd ⊢
            exact rd.ok em5 (v := none) trivial
    · rw [if_neg hk] at hc; cases hc
  · have e : i = xs.length := by omega
    subst e
    rw [List.drop_length, cprL] at hc
    split at hc
    · rename_i hk
      injection hc with _ z2
      subst z2
      exact .inl ⟨wk.stop ρ' _ H2 nx1 em' hk, q ρ' H2 (.ref D) (n1.trans nx1) em' ⟨D, rfl, pre_get nx.pre hd⟩⟩
    · cases hc
/-- one loop of a comprehension, from where its list stands -/
theorem cpr_loop {K : PySem.W.Frag} {elt : Ex} {tg : Tg} {cond : Option Ex} {own : List Nat} {σ : L2.St} {s : Sl} {ρ0 ρ1 : List Addr} {H0 H1 : Hp} {L1 Lz : LH} {J : L2.It} {xs : List LV} {c : Option (Nat × List LV)} {D d : Nat} {Z : Hp → Prop} {u : Unit}
    (hown : ∀ i ∈ tgN tg, i ∈ own) (hd : ρ1[d]? = some D) (rs : RS K cl ρ1 H1 s σ) (n0 : Nx ρ0 ρ1 H0 H1) (em1 : Em K cl ρ1 L1 H1) (wk : Wk K cl J xs c ρ0 H0)
    (h2 : cprL (fun x L => (evG T C tg x (wipeL s own) L).bind fun s' L' => (evC T C cond s' L').bind fun b L2 => if b = true then (evE T C elt s' L2).bind fun y L3 => .ok (some y) L3 else .ok none L2) c d xs L1 = .ok u Lz)
    (hz : ∀ ρ' H', Nx ρ1 ρ' H1 H' → Em K cl ρ' Lz H' → Z H') :
    ∃ W : Nat → Nat → Hp → Prop, (∃ m, W 0 m H1) ∧ ∀ i m H, W i m H → (J.stop i H ∧ Z H) ∨ (J.go i H ∧ ∃ Nx : Hp → Prop, (∀ H', Nx H' → ∃ m', m' < m ∧ W (i + 1) m' H') ∧ ∀ x H', J.yld i H x H' → rdG K cl T C tg x (wipe σ own) H' fun σ2 H2 => wipe σ2 own = wipe σ own ∧ rdC K cl T C cond σ2 H2 fun b H3 =>
      if b = true then rdE K cl T C elt σ2 H3 fun y H4 => ∃ acc, H4 D = some (.lst acc) ∧ acc.length < sizeLine ∧ Nx (upd H4 D (.lst (acc ++ [y]))) else Nx H3) := by
  generalize hf : (fun x L => (evG T C tg x (wipeL s own) L).bind fun s' L' => (evC T C cond s' L').bind fun b L2 => if b = true then (evE T C elt s' L2).bind fun y L3 => .ok (some y) L3 else .ok none L2) = f at h2
  refine ⟨fun i m H => m = xs.length - i ∧ i ≤ xs.length ∧ ∃ ρ' L', Nx ρ1 ρ' H1 H ∧ Em K cl ρ' L' H ∧ cprL f c d (xs.drop i) L' = .ok u Lz,
    ⟨xs.length, by omega, Nat.zero_le _, ρ1, _, Nx.refl, em1, h2⟩, ?_⟩
  rintro i m H2 ⟨hm, hi, ρ', L', nx, em', hc⟩
  have nx1 := n0.trans nx
  by_cases hlt : i < xs.length
  · refine .inr ?_
    rw [List.drop_eq_getElem_cons hlt, cprL] at hc
    have hx : xs[i]? = some xs[i] := List.getElem?_eq_getElem hlt
    by_cases hk : chkOk c L' = true
    · rw [if_pos hk] at hc
      obtain ⟨go, yld⟩ := wk.go i _ ρ' L' H2 nx1 em' hk hx
      refine ⟨go, fun H' => ∃ ρ' L', Nx ρ1 ρ' H1 H' ∧ Em K cl ρ' L' H' ∧ cprL f c d (xs.drop (i + 1)) L' = .ok u Lz, ?_, ?_⟩
      · rintro H' ⟨ρ4, L4, n4, em4, c4⟩
        exact ⟨xs.length - (i + 1), by omega, rfl, hlt, ρ4, L4, n4, em4, c4⟩
      · intro x' H3 hy
        obtain ⟨em3, n3, rx⟩ := yld x' H3 hy
        have rs3 : RS K cl ρ' H3 s σ := (rs.nx em1 nx).nx em' n3
        have rd0 : Rd K cl ρ' H3 (f xs[i] L') (fun ρ H o (o' : Option V) => match o, o' with | none, none => True | some y, some y' => RV K cl ρ H y y' | _, _ => False)
            (fun o' H4 => match o' with
              | none => ∃ ρ' L', Nx ρ1 ρ' H1 H4 ∧ Em K cl ρ' L' H4 ∧ cprL f c d (xs.drop (i + 1)) L' = .ok u Lz
              | some y' => ∃ acc, H4 D = some (.lst acc) ∧ acc.length < sizeLine ∧ ∃ ρ' L', Nx ρ1 ρ' H1 (upd H4 D (.lst (acc ++ [y']))) ∧ Em K cl ρ' L' (upd H4 D (.lst (acc ++ [y']))) ∧ cprL f c d (xs.drop (i + 1)) L' = .ok u Lz) := by
          cases hfx : f xs[i] L' with
          | stuck => rw [hfx] at hc; cases hc
          | ok o L4 =>
            rw [hfx] at hc
            refine ⟨o, L4, rfl, fun ρ4 H4 o' n4 em4 ro => ?_⟩
            have n4' := (nx.trans n3).trans n4
            cases o with
            | none =>
              cases o' with
              | none => exact ⟨ρ4, L4, n4', em4, hc⟩
              | some _ => exact ro.elim
            | some y =>
              cases o' with
              | none => exact ro.elim
              | some y' =>
                simp only at hc
                split at hc
                · rename_i acc hL
                  split at hc
                  · rename_i hb
                    have hD4 := pre_get n4'.pre hd
                    obtain ⟨ys, hH, ra⟩ := em4.obj _ _ D hL hD4
                    obtain ⟨em5, n5⟩ := put_lst em4 hD4 (ra.app (RVs.one ro))
                    exact ⟨ys, hH, by rw [ra.len]; exact lt_line hb, ρ4, _, n4'.trans n5, em5, hc⟩
                  · cases hc
                · cases hc
        subst hf
        refine ⟨ρ', wipeL s own, L', xs[i], em3, rs3.wipe own, rx, (rd0.bind (RG K cl (tgN tg) (L2.wipe σ own))).imp fun σ2 H4 ⟨ρ4, s4, L4, n4, em4, ⟨rs4, hw⟩, rd⟩ => ⟨?_, ρ4, s4, L4, em4, rs4, (rd.bind RB).imp fun b H5 ⟨ρ5, b', L5, n5, em5, eb, rd⟩ => ?_⟩⟩
        · rw [hw own hown, wipe_wipe]
        · cases eb
          cases b with
          | true =>
            rw [if_pos rfl] at rd ⊢
            refine ⟨ρ5, s4, L5, em5, rs4.nx em4 n5, (rd.bind (RV K cl)).imp fun y' H6 ⟨ρ6, y, L6, n6, em6, ry, rd⟩ => ?_⟩
            exact rd.ok em6 (v := some y') ry
          | false =>
            rw [if_neg Bool.false_ne_true] at rd ⊢
            exact rd.ok em5 (v := none) trivial
    · rw [if_neg hk] at hc; cases hc
  · have e : i = xs.length := by omega
    subst e
    rw [List.drop_length, cprL] at hc
    split at hc
    · rename_i hk
      injection hc with _ z2
      subst z2
      exact .inl ⟨wk.stop ρ' _ H2 nx1 em' hk, hz ρ' H2 nx em'⟩
    · cases hc
/-- .. of two fors -/
theorem lc2_read {K : PySem.W.Frag} {elt : Ex} {tg tg1 : Tg} {src src1 : It} {cond cond1 : Option Ex} {own own1 : List Nat} {σ : L2.St} {H : Hp} {Q : VK} (hown : ∀ i ∈ tgN tg, i ∈ own) (hown1 : ∀ i ∈ tgN tg1, i ∈ own1) (h : rdE K cl T C (.cpr2 elt tg src cond tg1 src1 cond1 own own1) σ H Q) :
    tLc2 (rdI K cl T C src) (rdG K cl T C tg) (rdC K cl T C cond) (rdI K cl T C src1) (rdG K cl T C tg1) (rdC K cl T C cond1) (rdE K cl T C elt) own own1 σ H Q := by
  obtain ⟨ρ, s, L, em, rs, v, L', he, q⟩ := h
  simp only [evE] at he
  cases h1 : evI T C src s L with
  | stuck => rw [h1] at he; cases he
  | ok p L1 =>
  rw [h1, R.bind_ok] at he
  generalize hf : (fun x L => (evG T C tg x (wipeL s own) L).bind fun s' L' => (evC T C cond s' L').bind fun b L2 => if b = true then (evI T C src1 s' L2).bind fun p1 L3 =>
          cprL (fun x L => (evG T C tg1 x (wipeL s' own1) L).bind fun s2 L' => (evC T C cond1 s2 L').bind fun b L2 => if b = true then (evE T C elt s2 L2).bind fun y L3 => .ok (some y) L3 else .ok none L2) p1.2 L1.length p1.1 L3 else .ok () L2) = f at he
  obtain ⟨xs, c⟩ := p
  simp only at he
  cases h2 : cpr2L f c xs (L1 ++ [.lst []]) with
  | stuck => rw [h2] at he; cases he
  | ok u Lz =>
  rw [h2, R.bind_ok] at he
  injection he with z1 z2
  subst z1; subst z2
  refine ⟨ρ, s, L, em, rs, (xs, c), L1, h1, fun ρ1 H1 J n1 em1 wk D hD => ?_⟩
  obtain ⟨em2, n2⟩ := em1.new (u := .lst []) (o := .lst []) hD rfl ⟨[], upd_same, rfl⟩
  have hd : (ρ1 ++ [D])[L1.length]? = some D := by
    rw [List.getElem?_append_right (by rw [em1.len]; exact Nat.le_refl _), em1.len, Nat.sub_self]
    rfl
  refine ⟨fun i m H => m = xs.length - i ∧ i ≤ xs.length ∧ ∃ ρ' L', Nx (ρ1 ++ [D]) ρ' (upd H1 D (.lst [])) H ∧ Em K cl ρ' L' H ∧ cpr2L f c (xs.drop i) L' = .ok u Lz,
    ⟨xs.length, by omega, Nat.zero_le _, ρ1 ++ [D], _, Nx.refl, em2, h2⟩, ?_⟩
  rintro i m H2 ⟨hm, hi, ρ', L', nx, em', hc⟩
  have nx1 := n2.trans nx
  by_cases hlt : i < xs.length
  · refine .inr ?_
    rw [List.drop_eq_getElem_cons hlt, cpr2L] at hc
    have hx : xs[i]? = some xs[i] := List.getElem?_eq_getElem hlt
    by_cases hk : chkOk c L' = true
    · rw [if_pos hk] at hc
      obtain ⟨go, yld⟩ := wk.go i _ ρ' L' H2 nx1 em' hk hx
      refine ⟨go, fun H' => ∃ ρ' L', Nx (ρ1 ++ [D]) ρ' (upd H1 D (.lst [])) H' ∧ Em K cl ρ' L' H' ∧ cpr2L f c (xs.drop (i + 1)) L' = .ok u Lz, ?_, ?_⟩
      · rintro H' ⟨ρ4, L4, n4, em4, c4⟩
        exact ⟨xs.length - (i + 1), by omega, rfl, hlt, ρ4, L4, n4, em4, c4⟩
      · intro x' H3 hy
        obtain ⟨em3, n3, rx⟩ := yld x' H3 hy
        have rs3 : RS K cl ρ' H3 s σ := (((rs.nx em n1).nx em1 n2).nx em2 nx).nx em' n3
        have nx3 := nx.trans n3
        cases hfx : f xs[i] L' with
        | stuck => rw [hfx] at hc; cases hc
        | ok o L9 =>
        rw [hfx, R.bind_ok] at hc
        subst hf
        dsimp only at hfx
        cases hg : evG T C tg xs[i] (wipeL s own) L' with
        | stuck => rw [hg] at hfx; cases hfx
        | ok s4 L4 =>
        rw [hg, R.bind_ok] at hfx
        refine ⟨ρ', wipeL s own, L', xs[i], em3, rs3.wipe own, rx, s4, L4, hg, fun ρ4 H4 σ2 n4 em4 ⟨rs4, hw⟩ => ⟨by rw [hw own hown, wipe_wipe], ?_⟩⟩
        cases hcc : evC T C cond s4 L4 with
        | stuck => rw [hcc] at hfx; cases hfx
        | ok b L5 =>
        rw [hcc, R.bind_ok] at hfx
        refine ⟨ρ4, s4, L4, em4, rs4, b, L5, hcc, fun ρ5 H5 b' n5 em5 eb => ?_⟩
        cases eb
        cases b with
        | false =>
          rw [if_neg Bool.false_ne_true] at hfx ⊢
          cases hfx
          exact ⟨ρ5, _, (nx3.trans n4).trans n5, em5, hc⟩
        | true =>
          rw [if_pos rfl] at hfx ⊢
          cases hi1 : evI T C src1 s4 L5 with
          | stuck => rw [hi1] at hfx; cases hfx
          | ok p1 L6 =>
          rw [hi1, R.bind_ok] at hfx
          refine ⟨ρ5, s4, L5, em5, rs4.nx em4 n5, p1, L6, hi1, fun ρ6 H6 J1 n6 em6 wk1 => ?_⟩
          have n36 := ((nx3.trans n4).trans n5).trans n6
          exact cpr_loop hown1 (pre_get n36.pre hd) ((rs4.nx em4 n5).nx em5 n6) Nx.refl em6 wk1 hfx fun ρ7 H7 n7 em7 => ⟨ρ7, L9, n36.trans n7, em7, hc⟩
    · rw [if_neg hk] at hc; cases hc
  · have e : i = xs.length := by omega
    subst e
    rw [List.drop_length, cpr2L] at hc
    split at hc
    · rename_i hk
      injection hc with _ z2
      subst z2
      exact .inl ⟨wk.stop ρ' _ H2 nx1 em' hk, q ρ' H2 (.ref D) (n1.trans nx1) em' ⟨D, rfl, pre_get nx.pre hd⟩⟩
    · cases hc
theorem getmethsm_ok {X : Cx} {pins : List (Addr × Obj)} {σ : L2.St} {H : Hp} {s : Shared} {ca fa : Addr} {m : Str} {pl : Sem Bool} {A : Around} {E : Value → Shared → Prop} {Q : Value × List Value → Shared → Prop} (I : Inv X pins σ H s) (c : Stat X.K ca fa m)
    (h : ∀ s', Inv X pins σ H s' → Q (.ref fa, []) s') : wpAny (model X.prog X.w) A (getMethod (.ref ca) m pl) Q E s := by
  obtain ⟨r, hk, pa, hf, rest, hp⟩ := c
  refine PySem.W.method_cls I.kIn r.ga (PySem.W.cls_bind I.kIn r.rd hf (wpAny_call (PySem.W.sm_get (s := { s with toks := s.toks + 1 }) I.kIn hp (PySem.W.handed_on rfl ?_))))
  exact h _ (I.tok _)
theorem pe_smeth {X : Cx} {CX : CXT} {k : Nat} {sp : Sp} {E : XK} {o : Expr} {es : List Expr} {ca fa : Addr} {fd : FuncData} {ps : List Str} {ds : List Value} {dvs : List V} {m : Str} {pos apos : Pos} {t : TA} {pl : Sem Bool} (he : PE X o (tC (.ref ca))) (c : Stat X.K ca fa m)
    (F : FnOk X.prog X.w X.K X.mg X.base CX k fa fd ps sp) (hr : Room k X.A) (hb : Binds X.K fd ps ds) (hd : Vals dvs ds) (hx : Passes CX X E) (ha : es = [] ∧ t = tNil ∨ ∃ e es', es = e :: es' ∧ PA X es t ∧ starEach (e :: es') X.env = (false, eval e X.env) :: starEach es' X.env ∧ (backTo pos (starEach es' X.env)).any (·.1) = false)
    (ht : eval (.Call (.Attribute o m apos) es [] pos) X.env = (do
      let ov ← eval o X.env
      standAt apos.atName
      let (f, first) ← holding [ov] (getMethod ov m pl)
      callWith pos f first (backTo pos (starEach es X.env)) (backToKw pos (keywordEach [] X.env)))) :
    PE X (.Call (.Attribute o m apos) es [] pos) (tCall sp dvs E t) := by
  refine ⟨fun pins s σ H Q I h => ?_⟩
  refine PySem.W.methodCall_KW (pl := pl) (thn (he.run pins s σ H (fun x H1 => x = .ref ca ∧ H1 = H) I ⟨rfl, rfl⟩) fun u s1 ⟨x, H1, I1, rx, ex, eh⟩ => ?_) ht
  subst ex; subst eh
  obtain rfl : u = Value.ref ca := rx
  refine getmethsm_ok I1 c fun s2 I2 => ?_
  rcases ha with ⟨rfl, rfl⟩ | ⟨e, es', rfl, ha, hst, hpl⟩
  · exact PySem.W.callWith_K0 I2.kIn c.2.1 (run_fn (us := []) F hr hb hd hx I2 .nil h)
  · refine PySem.W.callWith_K (h₀ := X.base) I2.ok.mod.kin c.2.1 (thn (ha.run pos pins s2 σ H1 _ I2 h) fun us s1 ⟨vs, H1, I1, r, q⟩ => ⟨I1.kIn, ?_⟩) hst hpl
    exact run_fn F hr hb hd hx I1 r q
theorem evEs_len {T : Tbl} {C : Orc} : ∀ {xs : List Ex} {s : Sl} {L : LH} {vs : List LV} {L' : LH}, evEs T C xs s L = .ok vs L' → vs.length = xs.length
  | [], s, L, vs, L', h => by
    simp only [evEs] at h
    cases h; rfl
  | x :: xs, s, L, vs, L', h => by
    simp only [evEs] at h
    cases h1 : evE T C x s L with
    | stuck => rw [h1] at h; cases h
    | ok v L1 =>
      rw [h1, R.bind_ok] at h
      cases h2 : evEs T C xs s L1 with
      | stuck => rw [h2] at h; cases h
      | ok ws L2 =>
        rw [h2, R.bind_ok] at h
        cases h
        rw [List.length_cons, List.length_cons, evEs_len h2]
/-- the result known -/
theorem Rd.at {K : PySem.W.Frag} {ρ : List Addr} {H : Hp} {r : R (List LV)} {Q Q' : List V → Hp → Prop} {v : List LV} {L : LH} (h : Rd K cl ρ H r (RVs K cl) Q) (e : r = .ok v L) (i : ∀ v' H', (∃ ρ', RVs K cl ρ' H' v v') → Q v' H' → Q' v' H') : Rd K cl ρ H r (RVs K cl) Q' := by
  subst e
  obtain ⟨v0, L0, e, q⟩ := h
  cases e
  exact ⟨_, _, rfl, fun ρ' H' v' n em r => i v' H' ⟨ρ', r⟩ (q ρ' H' v' n em r)⟩
theorem rdA.imp' {K : PySem.W.Frag} {E : List Ex} {σ : L2.St} {H : Hp} {Q Q' : List V → Hp → Prop} (h : rdA K cl T C E σ H Q) (i : ∀ v H, Q v H → Q' v H) : rdA K cl T C E σ H Q' := by
  obtain ⟨ρ, s, L, em, rs, rd⟩ := h
  exact ⟨ρ, s, L, em, rs, rd.imp i⟩
section
variable {X : Cx} {CX : CXT} {f : Addr} {fd : FuncData} {ps ks : List Str} {sp : Sp} {E : XK} {x : Str} {p pos : Pos} {kws : List Keyword} {tk : TA} {g : List Value → List Value → List Value} {gV : List V → List V → List V}
/-- f(k = v, ..) -/
theorem pe_callN0 (F : FnOk X.prog X.w X.K X.mg X.base CX k f fd ps sp) (hr : Room k X.A) (hg : Gl X x) (hm : X.mg x = some (.ref f)) (hk : PySem.W.keepIn X.K (.ref f) = true) (hb : KBn X.K fd ps 0 ks g gV) (hx : Passes CX X E)
    (hkw : PK X kws tk) (hall : (backToKw pos (keywordEach kws X.env)).all (·.1.isSome) = true) (hks : (backToKw pos (keywordEach kws X.env)).filterMap (·.1) = ks)
    (hdb : (x == ("__debug__" : Str)) = false) (hn : (backToKw pos (keywordEach kws X.env)).any (·.1.isNone) = false) :
    PE X (.Call (.Name x p) [] kws pos) (fun σ H Q => tk σ H fun zs H2 => ([] : List V).length = 0 ∧ zs.length = ks.length ∧ sp (gV [] zs) H2 Q E) := by
  refine ⟨fun pins s σ H Q I h => ?_⟩
  refine wpAny_Call_Name_kw (ld_glob I hg hm ?_ hdb)
  refine PySem.W.callWith_KW0 (h₀ := X.base) I.ok.mod.kin hk hall (thn (hkw.run pos pins s σ H _ I h) fun ws s2 ⟨zs, H2, I2, rz, l1, l2, q2⟩ => ⟨I2.kIn, ?_⟩) (by show (false || _) = false; rw [hn]; rfl)
  rw [hks]
  exact run_fnN (us := []) F hr hb hx I2 .nil rz l1 l2 q2
end
theorem pa_nil' {X : Cx} : PA X [] (rdA X.K cl T C []) := by
  refine PA.ex fun σ H Q q => ⟨_, pa_nil, ?_⟩
  obtain ⟨ρ, s, L, em, rs, rd⟩ := q
  simp only [evEs] at rd
  exact rd.ok em rfl
theorem pa_cons' {X : Cx} {x : Ex} {xs : List Ex} {e : Expr} {es : List Expr} (he : PE X e (rdE X.K cl T C x)) (hes : PA X es (rdA X.K cl T C xs)) (hs : starEach (e :: es) X.env = (false, eval e X.env) :: starEach es X.env) : PA X (e :: es) (rdA X.K cl T C (x :: xs)) := by
  refine PA.ex fun σ H Q q => ⟨_, pa_cons he hes hs, ?_⟩
  obtain ⟨ρ, s, L, em, rs, rd⟩ := q
  simp only [evEs] at rd
  refine ⟨ρ, s, L, em, rs, (rd.bind (RV X.K cl)).imp fun x' H1 ⟨ρ1, x, L1, n1, em1, rx, rd⟩ => ⟨ρ1, s, L1, em1, rs.nx em n1, (rd.bind (RVs X.K cl)).imp fun y' H2 ⟨ρ2, y, L2, n2, em2, ry, rd⟩ => ?_⟩⟩
  exact rd.ok em2 ⟨_, _, rfl, rx.nx em1 n2, ry⟩

theorem rdE_frz {K : PySem.W.Frag} {a : Ex} {σ : L2.St} {H : Hp} {Q : VK} (q : rdE K cl T C (.frz a) σ H Q) : rdE K cl T C a σ H Q := by
  obtain ⟨ρ, s, L, em, rs, v, L', e1, q⟩ := q
  simp only [evE] at e1
  cases hE : evE T C a s L with
  | stuck => rw [hE] at e1; cases e1
  | ok w L1 =>
    rw [hE, R.bind_ok] at e1
    exact ⟨ρ, s, L, em, rs, w, L1, hE, fun ρ1 H1 w' n1 em1 r1 => fz_read em e1 n1 em1 r1 q⟩
theorem rdT_frz {K : PySem.W.Frag} {a : Ex} {σ : L2.St} {H : Hp} {Q : Bool → Hp → Prop} (q : rdT K cl T C (.frz a) σ H Q) : rdT K cl T C a σ H Q := by
  obtain ⟨ρ, s, L, em, rs, b, L', e1, q⟩ := q
  refine ⟨ρ, s, L, em, rs, b, L', ?_, q⟩
  simp only [evE] at e1
  cases hE : evE T C a s L with
  | stuck => rw [hE] at e1; cases e1
  | ok w L1 =>
    rw [hE, R.bind_ok] at e1
    cases w with
    | ref i =>
      exfalso
      simp only [fzV] at e1
      repeat' split at e1
      all_goals cases e1
    | _ => exact e1
mutual
theorem snd_e : ∀ (E : Ex) {X : Cx} {sc wsc : Scope} {e : Expr}, Good X N sc wsc k cl T C S → isE N S sc E e = true → PE X e (rdE X.K cl T C E)
  | .var i, X, sc, wsc, e, g, h => by
    obtain ⟨x, p, rfl, hN, hv, hd, hcd⟩ := inv_var h
    refine PE.ex fun σ H Q q => ⟨_, pe_var (i := i) (by rw [g.N]; exact hN) (by rw [g.hsc]; exact vis_of hv) hd hcd, ?_⟩
    obtain ⟨ρ, s, L, em, rs, rd⟩ := q
    simp only [evE] at rd
    obtain ⟨v, hv, rd⟩ := rd.of
    obtain ⟨v', h1, h2⟩ := rs.get hv
    exact ⟨v', h1, rd.ok em h2⟩
  | .con v, X, sc, wsc, e, g, h => by
    refine PE.ex fun σ H Q q => ?_
    obtain ⟨ρ, s, L, em, rs, rd⟩ := q
    simp only [evE] at rd
    obtain ⟨j, p, c | ⟨b, c⟩ | ⟨b, c⟩ | ⟨b, c⟩⟩ := inv_con h
    · obtain ⟨rfl, rfl⟩ := c
      exact ⟨_, pe_non, rd.ok em rfl⟩
    · obtain ⟨rfl, rfl⟩ := c
      exact ⟨_, pe_bl, rd.ok em rfl⟩
    · obtain ⟨rfl, rfl⟩ := c
      exact ⟨_, pe_int, rd.ok em rfl⟩
    · obtain ⟨rfl, rfl⟩ := c
      exact ⟨_, pe_str, rd.ok em rfl⟩
  | .glo x, X, sc, wsc, e, g, h => by
    obtain ⟨p, rfl, hg, hd⟩ := inv_glo h
    refine PE.ex fun σ H Q q => ?_
    obtain ⟨ρ, s, L, em, rs, rd⟩ := q
    simp only [evE] at rd
    obtain ⟨v, hv, rd⟩ := rd.of
    obtain ⟨u, y, hm, r, rv⟩ := g.fc.glob x v hv
    exact ⟨_, pe_glob (gl_of g.hsc hg) hm r hd, rd.ok em (rv ρ H)⟩
  | .bin op a b, X, sc, wsc, e, g, h => by
    obtain ⟨l, o, r, p, rfl, ho, ha, hb, hS⟩ := inv_bin h
    refine PE.ex fun σ H Q q => ⟨_, pe_op op_any (snd_e a g ha) (snd_e b g hb), ?_⟩
    obtain ⟨ρ, s, L, em, rs, rd⟩ := q
    simp only [evE] at rd
    refine ⟨ρ, s, L, em, rs, (rd.bind (RV X.K cl)).imp fun x' H1 ⟨ρ1, x, L1, n1, em1, rx, rd⟩ => ⟨ρ1, s, L1, em1, rs.nx em n1, (rd.bind (RV X.K cl)).imp fun y' H2 ⟨ρ2, y, L2, n2, em2, ry, rd⟩ => ?_⟩⟩
    exact bin_any g em2 ho hS (rx.nx em1 n2) ry rd
  | .neg a, X, sc, wsc, e, g, h => by
    obtain ⟨l, p, rfl, ha⟩ := inv_neg h
    refine PE.ex fun σ H Q q => ⟨_, pe_un un_neg (snd_e a g ha), ?_⟩
    obtain ⟨ρ, s, L, em, rs, rd⟩ := q
    simp only [evE] at rd
    refine ⟨ρ, s, L, em, rs, (rd.bind (RV X.K cl)).imp fun x' H1 ⟨ρ1, x, L1, n1, em1, rx, rd⟩ => ?_⟩
    split at rd
    · cases rx
      exact ⟨_, rfl, rd.ok em1 rfl⟩
    · exact rd.stuck.elim
  | .cmp op a b, X, sc, wsc, e, g, h => by
    obtain ⟨l, o, r, p, rfl, ho, ha, hb, hm, hS⟩ := inv_cmp h
    exact PE.ex fun σ H Q q => ⟨_, pe_cmpR op_any (snd_e a g ha) (snd_e b g hb) hm, cmp_read g ho hS q⟩
  | .chn o1 o2 a b c, X, sc, wsc, e, g, h => by
    obtain ⟨l, p1, p2, m, r, p, rfl, h1, h2, ha, hb, hc, m1, m2⟩ := inv_chn h
    exact PE.ex fun σ H Q q => ⟨_, pe_chain op_any op_any (snd_e a g ha) (snd_e b g hb) (snd_e c g hc) m2, chn_read g.room.units h1 h2 q⟩
  | .ite c a b, X, sc, wsc, e, g, h => by
    obtain ⟨t, l, r, p, rfl, hc, ha, hb⟩ := inv_ite h
    refine PE.ex fun σ H Q q => ⟨_, pe_ifExp (snd_t c g hc) (snd_e a g ha) (snd_e b g hb), ?_⟩
    obtain ⟨ρ, s, L, em, rs, rd⟩ := q
    have rd' := rd
    rw [asB_ite (X := X)] at rd'
    refine ⟨ρ, s, L, em, rs, (rd'.bind RB).imp fun x' H1 ⟨ρ1, x, L1, n1, em1, rx, rd⟩ => ?_⟩
    cases rx
    cases x' with
    | true => exact ⟨ρ1, s, L1, em1, rs.nx em n1, rd⟩
    | false => exact ⟨ρ1, s, L1, em1, rs.nx em n1, rd⟩
  | .and a b, X, sc, wsc, e, g, h => by
    obtain ⟨x, y, r, p, rfl, ha, hb⟩ := inv_and h
    have pb : PE X (.BoolOp .And (y :: r) p) (rdE X.K cl T C b) := by
      rcases hb with ⟨rfl, hb⟩ | ⟨z, t, rfl, hb⟩
      · exact pe_one (snd_e b g hb)
      · exact snd_e b g hb
    refine PE.ex fun σ H Q q => ⟨_, pe_and (snd_e a g ha) pb, ?_⟩
    obtain ⟨ρ, s, L, em, rs, rd⟩ := q
    simp only [evE] at rd
    refine ⟨ρ, s, L, em, rs, (rd.bind (RV X.K cl)).imp fun x' H1 ⟨ρ1, x, L1, n1, em1, rx, rd⟩ => ?_⟩
    split at rd
    · cases rx
      refine ⟨true, rfl, ?_⟩
      rw [if_pos rfl]
      refine ⟨ρ1, s, L1, em1, rs.nx em n1, (rd.bind (RV X.K cl)).imp fun x' H2 ⟨ρ2, x2, L2, n2, em2, rx2, rd⟩ => ?_⟩
      split at rd
      · exact rd.ok em2 rx2
      · exact rd.stuck.elim
    · cases rx
      refine ⟨false, rfl, ?_⟩
      rw [if_neg Bool.false_ne_true]
      exact rd.ok em1 rfl
    · exact rd.stuck.elim
  | .or a b, X, sc, wsc, e, g, h => by
    obtain ⟨x, y, r, p, rfl, ha, hb⟩ := inv_or h
    have pb : PE X (.BoolOp .Or (y :: r) p) (rdE X.K cl T C b) := by
      rcases hb with ⟨rfl, hb⟩ | ⟨z, t, rfl, hb⟩
      · exact pe_one (snd_e b g hb)
      · exact snd_e b g hb
    refine PE.ex fun σ H Q q => ⟨_, pe_or (snd_e a g ha) pb, ?_⟩
    obtain ⟨ρ, s, L, em, rs, rd⟩ := q
    simp only [evE] at rd
    refine ⟨ρ, s, L, em, rs, (rd.bind (RV X.K cl)).imp fun x' H1 ⟨ρ1, x, L1, n1, em1, rx, rd⟩ => ?_⟩
    split at rd
    · cases rx
      refine ⟨true, rfl, ?_⟩
      rw [if_pos rfl]
      exact rd.ok em1 rfl
    · cases rx
      refine ⟨false, rfl, ?_⟩
      rw [if_neg Bool.false_ne_true]
      refine ⟨ρ1, s, L1, em1, rs.nx em n1, (rd.bind (RV X.K cl)).imp fun x' H2 ⟨ρ2, x2, L2, n2, em2, rx2, rd⟩ => ?_⟩
      split at rd
      · exact rd.ok em2 rx2
      · exact rd.stuck.elim
    · exact rd.stuck.elim
  | .not a, X, sc, wsc, e, g, h => by
    obtain ⟨l, p, rfl, ha⟩ := inv_not h
    refine PE.ex fun σ H Q q => ⟨_, pe_not (snd_e a g ha), ?_⟩
    obtain ⟨ρ, s, L, em, rs, rd⟩ := q
    simp only [evE] at rd
    refine ⟨ρ, s, L, em, rs, (rd.bind (RV X.K cl)).imp fun x' H1 ⟨ρ1, x, L1, n1, em1, rx, rd⟩ => ?_⟩
    split at rd
    · cases rx
      exact ⟨_, rfl, rd.ok em1 rfl⟩
    · exact rd.stuck.elim
  | .tup xs, X, sc, wsc, e, g, h => by
    obtain ⟨es, j, p, rfl, hs⟩ := inv_tup h
    refine PE.ex fun σ H Q q => ⟨_, pe_tup (snd_es xs g hs), ?_⟩
    obtain ⟨ρ, s, L, em, rs, rd⟩ := q
    simp only [evE] at rd
    refine ⟨ρ, s, L, em, rs, (rd.bind (RVs X.K cl)).imp fun x' H1 ⟨ρ1, x, L1, n1, em1, rx, rd⟩ => ?_⟩
    split at rd
    · rename_i hl
      exact ⟨by rw [rx.len]; exact le_line hl, new_tup em1 rx rd⟩
    · exact rd.stuck.elim
  | .lst xs, X, sc, wsc, e, g, h => by
    obtain ⟨es, p, rfl, hs⟩ := inv_lst h
    refine PE.ex fun σ H Q q => ⟨_, pe_lst (snd_es xs g hs), ?_⟩
    obtain ⟨ρ, s, L, em, rs, rd⟩ := q
    simp only [evE] at rd
    refine ⟨ρ, s, L, em, rs, (rd.bind (RVs X.K cl)).imp fun x' H1 ⟨ρ1, x, L1, n1, em1, rx, rd⟩ => ?_⟩
    split at rd
    · rename_i hl
      exact ⟨by rw [rx.len]; exact le_line hl, new_lst em1 rx rd⟩
    · exact rd.stuck.elim
  | .dic _ _, X, sc, wsc, e, g, h => (inv_dic h).elim
  | .frz a, X, sc, wsc, e, g, h => PE.ex fun σ H Q q => ⟨_, snd_e a g (inv_frz h), rdE_frz q⟩
  | .call f xs ds, X, sc, wsc, e, g, h => by
    obtain ⟨p2, es, p, rfl, hg, hd, hs, hS⟩ := inv_call h
    obtain ⟨fa, fd, ps, hm, hk, F, fl⟩ := g.fc.call f _ ds hS
    obtain ⟨dv, dV, r1, r2, r3⟩ := fl
    refine PE.ex fun σ H Q q => ?_
    obtain ⟨ρ, s, L, em, rs, rd⟩ := q
    simp only [evE] at rd
    cases xs with
    | nil =>
      cases es with
      | cons _ _ => simp [isEs] at hs
      | nil =>
        refine ⟨_, pe_call0 F (g.room.mono (Nat.le_succ _)) (gl_of g.hsc hg) hm hk r2 r1 pass0 hd, ρ, ds, L, em, r3 ρ H, ?_⟩
        simpa only [evEs, R.bind_ok, List.nil_append] using rd
    | cons x xs =>
      cases es with
      | nil => simp [isEs] at hs
      | cons e0 es =>
        have pa := snd_es (x :: xs) g hs
        simp only [isEs, Bool.and_eq_true] at hs
        refine ⟨_, pe_call F (g.room.mono (Nat.le_succ _)) (gl_of g.hsc hg) hm hk r2 r1 pass0 pa hd (inv_star hs.1 _ _) (plain_es hs.2 _ _), ρ, s, L, em, rs, (rd.bind (RVs X.K cl)).imp fun x' H1 ⟨ρ1, x, L1, n1, em1, rx, rd⟩ => ?_⟩
        exact ⟨ρ1, x ++ ds, L1, em1, rx.app (r3 ρ1 H1), rd⟩
  | .scl c m xs ds, X, sc, wsc, e, g, h => by
    obtain ⟨np, ap, es, p, rfl, hg, hd, hb, hs, hl, hp, hS⟩ := inv_scl h
    obtain ⟨ca, fa, fd, ps, hm, hst, F, fl⟩ := g.fc.scl c m _ ds hS
    obtain ⟨dv, dV, r1, r2, r3⟩ := fl
    have pn : PE X (.Name (Str.ofString c) np) (tC (.ref ca)) := pe_glob (gl_of g.hsc hg) hm rfl hd
    refine PE.ex fun σ H Q q => ?_
    obtain ⟨ρ, s, L, em, rs, rd⟩ := q
    simp only [evE] at rd
    have cf := call_form (m := Str.ofString m) X.env hb hs hl hp
    cases xs with
    | nil =>
      cases es with
      | cons _ _ => simp [isEs] at hs
      | nil =>
        refine ⟨_, pe_smeth pn hst F (g.room.mono (Nat.le_succ _)) r2 r1 pass0 (.inl ⟨rfl, rfl⟩) cf, ρ, ds, L, em, r3 ρ H, ?_⟩
        simpa only [evEs, R.bind_ok, List.nil_append] using rd
    | cons x xs =>
      cases es with
      | nil => simp [isEs] at hs
      | cons e0 es =>
        have pa := snd_es (x :: xs) g hs
        simp only [isEs, Bool.and_eq_true] at hs
        refine ⟨_, pe_smeth pn hst F (g.room.mono (Nat.le_succ _)) r2 r1 pass0 (.inr ⟨e0, es, rfl, pa, inv_star hs.1 _ _, plain_es hs.2 _ _⟩) cf, ρ, s, L, em, rs, (rd.bind (RVs X.K cl)).imp fun x' H1 ⟨ρ1, x, L1, n1, em1, rx, rd⟩ => ?_⟩
        exact ⟨ρ1, x ++ ds, L1, em1, rx.app (r3 ρ1 H1), rd⟩
  | .calk f xs ks zs ds, X, sc, wsc, e, g, h => by
    obtain ⟨p2, es, kws, p, rfl, hg, hd, hs, hk2, hS⟩ := inv_calk h
    obtain ⟨fa, fd, ps, hm, hk, F, fl⟩ := g.fc.calk f _ ks ds hS
    obtain ⟨dv, dV, r1, r2, r3⟩ := fl
    obtain ⟨l1, l2, l3, l4⟩ := len_ks hk2 p X.env
    have pk := snd_ks zs g hk2
    refine PE.ex fun σ H Q q => ?_
    obtain ⟨ρ, s, L, em, rs, rd⟩ := q
    simp only [evE] at rd
    have fin : ∀ {ρ1 : List Addr} {x : List LV} {L1 : LH} {H1 : Hp} {x' : List V}, Nx ρ ρ1 H H1 → Em X.K cl ρ1 L1 H1 → RVs X.K cl ρ1 H1 x x' → x.length = xs.length → Rd X.K cl ρ1 H1 ((evEs T C zs s L1).bind fun ws L2 => C f (x ++ ws ++ ds) L2) (RV X.K cl) Q →
        rdA X.K cl T C zs σ H1 fun zs' H2 => x'.length = xs.length ∧ zs'.length = (ks.map Str.ofString).length ∧ spS X.K cl (C f) (x' ++ zs' ++ dv) H2 Q E0 := by
      intro ρ1 x L1 H1 x' n1 em1 rx hx rd
      have hz : ∃ ws L2, evEs T C zs s L1 = .ok ws L2 ∧ ws.length = zs.length := by
        obtain ⟨_, _, e1, _⟩ := rd
        cases h2 : evEs T C zs s L1 with
        | stuck => rw [h2] at e1; cases e1
        | ok ws L2 => exact ⟨ws, L2, rfl, evEs_len h2⟩
      obtain ⟨ws0, L20, hz1, hz2⟩ := hz
      refine ⟨ρ1, s, L1, em1, rs.nx em n1, (rd.bind (RVs X.K cl)).at hz1 fun z' H2 rz ⟨ρ2, z, L2, n2, em2, rz', rd⟩ => ⟨by rw [rx.len, hx], ?_, ρ2, x ++ z ++ ds, L2, em2, ((RVs.nx em1 n2 rx).app rz').app (r3 ρ2 H2), rd⟩⟩
      obtain ⟨ρr, rz⟩ := rz
      rw [rz.len, hz2, l1, List.length_map]
    cases xs with
    | nil =>
      cases es with
      | cons _ _ => simp [isEs] at hs
      | nil =>
        simp only [evEs, R.bind_ok] at rd
        refine ⟨_, pe_callN0 F (g.room.mono (Nat.le_succ _)) (gl_of g.hsc hg) hm hk r2 pass0 pk l2 l3 hd l4, ?_⟩
        refine (fin Nx.refl em (x := []) (x' := []) rfl rfl (by simpa using rd)).imp' fun zs' H2 ⟨_, h2, h3⟩ => ⟨rfl, h2, h3⟩
    | cons x xs =>
      cases es with
      | nil => simp [isEs] at hs
      | cons e0 es =>
        have pa := snd_es (x :: xs) g hs
        simp only [isEs, Bool.and_eq_true] at hs
        have hx : ∃ ws L2, evEs T C (x :: xs) s L = .ok ws L2 ∧ ws.length = (x :: xs).length := by
          obtain ⟨_, _, e1, _⟩ := rd
          cases h2 : evEs T C (x :: xs) s L with
          | stuck => rw [h2] at e1; cases e1
          | ok ws L2 => exact ⟨ws, L2, rfl, evEs_len h2⟩
        obtain ⟨ws0, L20, hz1, hz2⟩ := hx
        refine ⟨_, pe_callN F (g.room.mono (Nat.le_succ _)) (gl_of g.hsc hg) hm hk r2 pass0 pa pk l2 l3 hd (inv_star hs.1 _ _) (by rw [inv_star hs.1]; show ((false || (backTo p (starEach es X.env)).any (·.1)) || _) = false; rw [plain_es hs.2, l4]; rfl), ρ, s, L, em, rs, (rd.bind (RVs X.K cl)).at hz1 fun x' H1 ⟨_, rx0⟩ ⟨ρ1, x1, L1, n1, em1, rx, rd⟩ => ?_⟩
        exact fin n1 em1 rx (by rw [← rx.len, rx0.len, hz2]) rd
  | .new f xs ds, X, sc, wsc, e, g, h => by
    obtain ⟨p2, es, p, rfl, hg, hd, hs, hS⟩ := inv_new h
    obtain ⟨ca, fa, fd, ps, hc, hm, M, F, fl⟩ := g.fc.new f _ ds hS
    obtain ⟨dv, dV, r1, r2, r3⟩ := fl
    refine PE.ex fun σ H Q q => ?_
    obtain ⟨ρ, s, L, em, rs, rd⟩ := q
    simp only [evE] at rd
    have key : ∀ {ρ1 : List Addr} {H1 : Hp} {L1 : LH} {vs : List LV} {vs' : List V}, Em X.K cl ρ1 L1 H1 → RVs X.K cl ρ1 H1 vs vs' →
        Rd X.K cl ρ1 H1 ((C (f ++ ".__init__") (.ref L1.length :: (vs ++ ds)) (L1 ++ [.ins f []])).bind fun r L2 => if r = .non then .ok (.ref L1.length) L2 else .stuck) (RV X.K cl) Q →
        ∀ x dx, H1 x = none → H1 dx = none → dx ≠ x → spS X.K cl (C (f ++ ".__init__")) (.ref x :: (vs' ++ dv)) (upd (upd H1 dx (.own x)) x (.ins ca dx [])) (fun v H2 => v = .non ∧ Q (.ref x) H2) E0 := by
      intro ρ1 H1 L1 vs vs' em1 rv rd x dx hx hdx ne
      obtain ⟨em2, n2⟩ := new_ins em1 hc hx hdx ne
      refine ⟨ρ1 ++ [x], .ref L1.length :: (vs ++ ds), _, em2, ⟨_, _, rfl, ⟨x, rfl, ?_⟩, (rv.nx em1 n2).app (r3 _ _)⟩, ?_⟩
      · rw [← em1.len, List.getElem?_append_right (Nat.le_refl _), Nat.sub_self]; rfl
      · obtain ⟨v, L', e1, q⟩ := rd
        cases hC : C (f ++ ".__init__") (.ref L1.length :: (vs ++ ds)) (L1 ++ [.ins f []]) with
        | stuck => rw [hC] at e1; cases e1
        | ok r L2 =>
          rw [hC, R.bind_ok] at e1
          split at e1
          · rename_i hr
            cases e1
            subst hr
            refine ⟨_, _, rfl, fun ρ3 H3 v3 n3 em3 rv3 => ⟨rv3, ?_⟩⟩
            refine q ρ3 H3 (.ref x) (n2.trans n3) em3 ⟨x, rfl, ?_⟩
            refine pre_get n3.pre ?_
            rw [← em1.len, List.getElem?_append_right (Nat.le_refl _), Nat.sub_self]; rfl
          · cases e1
    cases xs with
    | nil =>
      cases es with
      | cons _ _ => simp [isEs] at hs
      | nil =>
        simp only [evEs, R.bind_ok] at rd
        exact ⟨_, pe_make0 M F g.room (gl_of g.hsc hg) hm r2 r1 pass0 hd, key (vs := []) (vs' := []) em rfl rd⟩
    | cons x xs =>
      cases es with
      | nil => simp [isEs] at hs
      | cons e0 es =>
        have pa := snd_es (x :: xs) g hs
        simp only [isEs, Bool.and_eq_true] at hs
        refine ⟨_, pe_make M F g.room (gl_of g.hsc hg) hm r2 r1 pass0 pa hd (inv_star hs.1 _ _) (plain_es hs.2 _ _), ρ, s, L, em, rs, (rd.bind (RVs X.K cl)).imp fun x' H1 ⟨ρ1, x, L1, n1, em1, rx, rd⟩ => key em1 rx rd⟩
  | .blt f xs, X, sc, wsc, e, g, h => by
    obtain ⟨p2, es, p, rfl, hg, hf, hs, hl⟩ := inv_blt h
    refine PE.ex fun σ H Q q => ?_
    obtain ⟨ρ, s, L, em, rs, rd⟩ := q
    simp only [evE] at rd
    cases xs with
    | nil => simp at hl
    | cons x xs =>
      cases es with
      | nil => simp [isEs] at hs
      | cons e0 es =>
        have pa := snd_es (x :: xs) g hs
        simp only [isEs, Bool.and_eq_true] at hs
        have st := inv_star hs.1 es X.env
        have pl := plain_es hs.2 p X.env
        have gg := gl_of g.hsc hg
        simp only [List.mem_cons, List.not_mem_nil, or_false] at hf
        rcases hf with rfl | rfl | rfl | rfl | rfl | rfl | rfl | rfl | rfl | rfl | rfl
        · refine ⟨_, pe_callB call_any gg (g.fc.bl _ (by decide)) boot_len pa (by decide) (by decide) st pl, ρ, s, L, em, rs, (rd.bind (RVs X.K cl)).imp fun x' H1 ⟨ρ1, x, L1, n1, em1, rx, rd⟩ => ?_⟩
          exact len_ok rfl em1 rx rd
        · refine ⟨_, pe_callB call_any gg (g.fc.bl _ (by decide)) boot_abs pa (by decide) (by decide) st pl, ρ, s, L, em, rs, (rd.bind (RVs X.K cl)).imp fun x' H1 ⟨ρ1, x, L1, n1, em1, rx, rd⟩ => ?_⟩
          exact abs_ok em1 rx rd
        · refine ⟨_, pe_callB call_any gg (g.fc.bl _ (by decide)) boot_min pa (by decide) (by decide) st pl, ρ, s, L, em, rs, (rd.bind (RVs X.K cl)).imp fun x' H1 ⟨ρ1, x, L1, n1, em1, rx, rd⟩ => ?_⟩
          exact min_ok rfl g.calm em1 rx rd
        · refine ⟨_, pe_callB call_any gg (g.fc.bl _ (by decide)) boot_max pa (by decide) (by decide) st pl, ρ, s, L, em, rs, (rd.bind (RVs X.K cl)).imp fun x' H1 ⟨ρ1, x, L1, n1, em1, rx, rd⟩ => ?_⟩
          exact max_ok rfl g.calm em1 rx rd
        · refine ⟨_, pe_callTy call_any gg (g.fc.bl _ (by decide)) PyProof.Rows.boot_int pa (by decide) (by decide) st pl, ρ, s, L, em, rs, (rd.bind (RVs X.K cl)).imp fun x' H1 ⟨ρ1, x, L1, n1, em1, rx, rd⟩ => ?_⟩
          exact int_ok em1 rx rd
        · refine ⟨_, pe_callTy call_any gg (g.fc.bl _ (by decide)) PyProof.Rows.boot_list pa (by decide) (by decide) st pl, ρ, s, L, em, rs, (rd.bind (RVs X.K cl)).imp fun x' H1 ⟨ρ1, x, L1, n1, em1, rx, rd⟩ => ?_⟩
          exact lst_ok rfl em1 rx rd
        · refine ⟨_, pe_callTy call_any gg (g.fc.bl _ (by decide)) PyProof.Rows.boot_tuple pa (by decide) (by decide) st pl, ρ, s, L, em, rs, (rd.bind (RVs X.K cl)).imp fun x' H1 ⟨ρ1, x, L1, n1, em1, rx, rd⟩ => ?_⟩
          exact tup_ok rfl em1 rx rd
        · refine ⟨_, pe_callB call_any gg (g.fc.bl _ (by decide)) PyProof.Rows.boot_any pa (by decide) (by decide) st pl, ρ, s, L, em, rs, (rd.bind (RVs X.K cl)).imp fun x' H1 ⟨ρ1, x, L1, n1, em1, rx, rd⟩ => ?_⟩
          exact any_ok rfl g.calm em1 rx rd
        · refine ⟨_, pe_callB call_any gg (g.fc.bl _ (by decide)) PyProof.Rows.boot_all pa (by decide) (by decide) st pl, ρ, s, L, em, rs, (rd.bind (RVs X.K cl)).imp fun x' H1 ⟨ρ1, x, L1, n1, em1, rx, rd⟩ => ?_⟩
          exact all_ok' rfl g.calm em1 rx rd
        · refine ⟨_, pe_callB call_any gg (g.fc.bl _ (by decide)) PyProof.Rows.boot_sum pa (by decide) (by decide) st pl, ρ, s, L, em, rs, (rd.bind (RVs X.K cl)).imp fun x' H1 ⟨ρ1, x, L1, n1, em1, rx, rd⟩ => ?_⟩
          exact sum_ok rfl g.calm em1 rx rd
        · refine ⟨_, pe_callB call_any gg (g.fc.bl _ (by decide)) PyProof.Rows.boot_sorted pa (by decide) (by decide) st pl, ρ, s, L, em, rs, (rd.bind (RVs X.K cl)).imp fun x' H1 ⟨ρ1, x, L1, n1, em1, rx, rd⟩ => ?_⟩
          exact sorted_ok rfl g.room.units em1 rx rd
  | .isi a ts, X, sc, wsc, e, g, h => by
    obtain ⟨t, p2, l, p3, p, rfl, rfl, hg, hg2, ht, ha⟩ := inv_isi h
    have tyP : PE X (.Name (Str.ofString t) p3) (tC (.ty t)) := by
      have gg := gl_of g.hsc hg2
      have ht' := ht
      simp only [List.mem_cons, List.not_mem_nil, or_false] at ht'
      rcases ht' with rfl | rfl | rfl | rfl | rfl | rfl
      · exact pe_bltn gg (g.fc.bl _ (by decide)) PyProof.Rows.boot_int rfl (by decide) (by decide)
      · exact pe_bltn gg (g.fc.bl _ (by decide)) PyProof.Rows.boot_bool rfl (by decide) (by decide)
      · exact pe_bltn gg (g.fc.bl _ (by decide)) PyProof.Rows.boot_str rfl (by decide) (by decide)
      · exact pe_bltn gg (g.fc.bl _ (by decide)) PyProof.Rows.boot_list rfl (by decide) (by decide)
      · exact pe_bltn gg (g.fc.bl _ (by decide)) PyProof.Rows.boot_tuple rfl (by decide) (by decide)
      · exact pe_bltn gg (g.fc.bl _ (by decide)) PyProof.Rows.boot_dict rfl (by decide) (by decide)
    refine PE.ex fun σ H Q q => ⟨_, pe_callB call_isi (gl_of g.hsc hg) (g.fc.bl _ (by decide)) boot_isinstance (pa_cons (snd_e a g ha) (pa_cons tyP pa_nil) (inv_star ha _ _)) (by decide) (by decide) (inv_star ha _ _) rfl, ?_⟩
    obtain ⟨ρ, s, L, em, rs, rd⟩ := q
    simp only [evE] at rd
    refine ⟨ρ, s, L, em, rs, (rd.bind (RV X.K cl)).imp fun x' H1 ⟨ρ1, x, L1, n1, em1, rx, rd⟩ => ?_⟩
    obtain ⟨v, hv, rd⟩ := rd.of
    obtain ⟨b, hb, rfl⟩ := Option.map_eq_some_iff.mp hv
    have hb' : isKind L1 x t = some b := by
      simp only [isKinds, Option.bind_eq_some_iff, Option.map_some, Option.some.injEq, Bool.or_false] at hb
      obtain ⟨c, h1, h2⟩ := hb
      rw [h1, h2]
    obtain ⟨u, ty, kb⟩ := kind_ok em1 rx ht hb'
    exact ⟨x', .ty t, .type u, .type t, b, rfl, .ty t, ty, kit_ty kb, rd.ok em1 rfl⟩
  | .fld a f, X, sc, wsc, e, g, h => by
    obtain ⟨o, p, rfl, hb, hS, ha⟩ := inv_fld h
    refine PE.ex fun σ H Q q => ⟨_, pe_fld (snd_e a g ha) (base_of hb), ?_⟩
    obtain ⟨ρ, s, L, em, rs, rd⟩ := q
    simp only [evE] at rd
    refine ⟨ρ, s, L, em, rs, (rd.bind (RV X.K cl)).imp fun x' H1 ⟨ρ1, x, L1, n1, em1, rx, rd⟩ => ?_⟩
    split at rd
    · split at rd
      · rename_i hL
        obtain ⟨v, hv, rd⟩ := rd.of
        obtain ⟨ad, rfl, had⟩ := rx
        obtain ⟨c, dx, ys, hc, hH, rf⟩ := em1.obj _ _ ad hL had
        obtain ⟨y, h1, h2⟩ := (lookup_rfs (f := f) rf).1 v hv
        exact ⟨ad, c, dx, ys, y, rfl, hH, g.fc.cls _ _ hc, g.fc.fld f hS _ _ hc, h1, rd.ok em1 h2⟩
      · exact rd.stuck.elim
    · obtain ⟨v, hv, rd⟩ := rd.of
      obtain ⟨ad, c, dx, ys, rfl, hc, hH, _, hl, rvs⟩ := rx
      obtain ⟨y, h1, h2⟩ := (lookup_ob (f := f) rvs hl).1 v hv
      exact ⟨ad, c, dx, _, y, rfl, hH, g.fc.cls _ _ hc, g.fc.fld f hS _ _ hc, h1, rd.ok em1 h2⟩
    · exact rd.stuck.elim
  | .mth a m xs ds, X, sc, wsc, e, g, h => by
    obtain ⟨o, ap, es, p, rfl, hb, ha, hs, hl, hp, hS⟩ := inv_mth h
    have form := call_form (o := o) (m := Str.ofString m) (apos := ap) (pos := p) X.env hb hs hl hp
    refine PE.ex fun σ H Q q => ?_
    obtain ⟨ρ, s, L, em, rs, rd⟩ := q
    simp only [evE] at rd
    cases hE : evE T C a s L with
    | stuck => rw [hE] at rd; exact rd.stuck.elim
    | ok x L1 =>
      have rd0 := rd
      rw [hE, R.bind_ok] at rd0
      cases x with
      | ref i =>
        simp only at rd0
        cases hL : L1[i]? with
        | none => rw [hL] at rd0; exact rd0.stuck.elim
        | some ob =>
          rw [hL] at rd0
          cases ob with
          | dic _ => exact rd0.stuck.elim
          | ins c fs =>
            simp only at rd0
            split at rd0
            · rename_i hf
              -- the base, known
              have at1 : ∀ {Q' : VK}, (∀ ρ1 H1, Nx ρ ρ1 H H1 → Em X.K cl ρ1 L1 H1 → ∀ ad, ρ1[i]? = some ad → Rd X.K cl ρ1 H1 ((evEs T C xs s L1).bind fun vs L2 => C (c ++ "." ++ m) (.ref i :: (vs ++ ds)) L2) (RV X.K cl) Q → Q' (.ref ad) H1) → rdE X.K cl T C a σ H Q' := by
                intro Q' hq
                refine ⟨ρ, s, L, em, rs, _, _, hE, fun ρ1 H1 v1 n1 em1 r1 => ?_⟩
                obtain ⟨ad, rfl, had⟩ := r1
                refine hq ρ1 H1 n1 em1 ad had ?_
                obtain ⟨w, L', e1, q⟩ := rd0
                exact ⟨w, L', e1, fun ρ2 H2 v2 n2 em2 r2 => q ρ2 H2 v2 (n1.trans n2) em2 r2⟩
              have dead : (∀ ρ1 H1, Nx ρ ρ1 H H1 → Em X.K cl ρ1 L1 H1 → False) → ∃ u, PE X (.Call (.Attribute o (Str.ofString m) ap) es [] p) u ∧ u σ H Q := fun hf =>
                ⟨_, pe_dead (snd_e a g ha) form, at1 fun ρ1 H1 n1 em1 _ _ _ => hf ρ1 H1 n1 em1⟩
              cases hc : cl c with
              | none =>
                refine dead fun ρ1 H1 n1 em1 => ?_
                obtain ⟨ad, had⟩ := em1.adr hL
                obtain ⟨ca, _, _, h1, _⟩ := em1.obj i _ ad hL had
                rw [hc] at h1; cases h1
              | some ca =>
                rcases g.fc.mth m _ ds hS c ca hc with hst | ⟨fa, fd, ps, M, F, fl⟩
                · exfalso
                  obtain ⟨w, L', e1, _⟩ := rd0
                  cases h2 : evEs T C xs s L1 with
                  | stuck => rw [h2] at e1; cases e1
                  | ok vs L2 => rw [h2, R.bind_ok, hst] at e1; cases e1
                · obtain ⟨dv, dV, r1, r2, r3⟩ := fl
                  have fin : ∀ {ρ1 : List Addr} {H1 : Hp} {ad : Addr}, Em X.K cl ρ1 L1 H1 → ρ1[i]? = some ad → ∃ dx ys, H1 ad = some (.ins ca dx ys) ∧ ys.lookup (Str.ofString m) = none := by
                    intro ρ1 H1 ad em1 had
                    obtain ⟨ca', dx, ys, h1, h2, h3⟩ := em1.obj i _ ad hL had
                    rw [hc] at h1; cases h1
                    exact ⟨dx, ys, h2, (lookup_rfs (f := m) h3).2 hf⟩
                  cases xs with
                  | nil =>
                    cases es with
                    | cons _ _ => simp [isEs] at hs
                    | nil =>
                      refine ⟨_, pe_meth0 (snd_e a g ha) (g.fc.cls c ca hc) M F (g.room.mono (Nat.le_succ _)) r2 r1 pass0 form, at1 fun ρ1 H1 n1 em1 ad had rd => ?_⟩
                      obtain ⟨dx, ys, h1, h2⟩ := fin em1 had
                      refine ⟨ad, dx, ys, rfl, h1, h2, ρ1, .ref i :: ds, L1, em1, ⟨_, _, rfl, ⟨ad, rfl, had⟩, r3 _ _⟩, ?_⟩
                      simpa only [evEs, R.bind_ok, List.nil_append] using rd
                  | cons x0 xs =>
                    cases es with
                    | nil => simp [isEs] at hs
                    | cons e0 es =>
                      have pa := snd_es (x0 :: xs) g hs
                      have hs' := hs
                      simp only [isEs, Bool.and_eq_true] at hs'
                      refine ⟨_, pe_meth (snd_e a g ha) (g.fc.cls c ca hc) M F (g.room.mono (Nat.le_succ _)) r2 r1 pass0 pa (inv_star hs'.1 _ _) (plain_es hs'.2 _ _) form, at1 fun ρ1 H1 n1 em1 ad had rd => ?_⟩
                      obtain ⟨dx, ys, h1, h2⟩ := fin em1 had
                      refine ⟨ad, dx, ys, rfl, h1, h2, ρ1, s, L1, em1, rs.nx em n1, (rd.bind (RVs X.K cl)).imp fun vs' H2 ⟨ρ2, vs, L2, n2, em2, rvs, rd⟩ => ?_⟩
                      exact ⟨ρ2, .ref i :: (vs ++ ds), L2, em2, ⟨_, _, rfl, ⟨ad, rfl, pre_get n2.pre had⟩, rvs.app (r3 _ _)⟩, rd⟩
            · exact rd0.stuck.elim
          | lst zs =>
            simp only at rd0
            have at1 : ∀ {Q' : VK}, (∀ ρ1 H1 ad, Nx ρ ρ1 H H1 → Em X.K cl ρ1 L1 H1 → RV X.K cl ρ1 H1 (.ref i) (.ref ad) → tyV X.K "list" (.ref ad) H1 → Rd X.K cl ρ1 H1 ((evEs T C xs s L1).bind fun vs L2 => lmV m (.ref i) vs L2) (RV X.K cl) Q → Q' (.ref ad) H1) → rdE X.K cl T C a σ H Q' := by
              intro Q' hq
              refine ⟨ρ, s, L, em, rs, _, _, hE, fun ρ1 H1 v1 n1 em1 r1 => ?_⟩
              obtain ⟨ad, rfl, had⟩ := r1
              obtain ⟨ys, hH, _⟩ := em1.obj i _ ad hL had
              refine hq ρ1 H1 ad n1 em1 ⟨ad, rfl, had⟩ (.inl ⟨rfl, ys, SqL.of hH⟩) ?_
              obtain ⟨w, L', e1, q⟩ := rd0
              exact ⟨w, L', e1, fun ρ2 H2 v2 n2 em2 r2 => q ρ2 H2 v2 (n1.trans n2) em2 r2⟩
            by_cases h1 : m = "append"
            · subst h1
              cases xs with
              | nil =>
                exfalso
                simp only [evEs, R.bind_ok, lmV, appendV] at rd0
                exact rd0.stuck
              | cons x0 xs =>
                cases es with
                | nil => simp [isEs] at hs
                | cons e0 es =>
                  have pa := snd_es (x0 :: xs) g hs
                  have hs' := hs
                  simp only [isEs, Bool.and_eq_true] at hs'
                  refine ⟨_, pe_bm PySem.F.plainAttrs_list PySem.F.slot_list_append PySem.F.type_list_append mt_any (snd_e a g ha) pa (base_of hb) (form_es hs hl p X.env) hp (inv_star hs'.1 _ _) (plain_es hs'.2 _ _), at1 fun ρ1 H1 ad n1 em1 rx ty rd => ?_⟩
                  exact ⟨ty, ρ1, s, L1, em1, rs.nx em n1, (rd.bind (RVs X.K cl)).imp fun vs' H2 ⟨ρ2, vs, L2, n2, em2, rvs, rd⟩ => append_ok em2 (rx.nx em1 n2) rvs rd⟩
            · by_cases h2 : m = "pop"
              · subst h2
                cases xs with
                | cons x0 xs =>
                  exfalso
                  simp only [lmV] at rd0
                  obtain ⟨w, L', e1, _⟩ := rd0
                  cases h2 : evEs T C (x0 :: xs) s L1 with
                  | stuck => rw [h2] at e1; cases e1
                  | ok vs L2 =>
                    rw [h2, R.bind_ok] at e1
                    have hv : vs ≠ [] := by
                      intro z
                      subst z
                      simp only [evEs] at h2
                      cases h3 : evE T C x0 s L1 with
                      | stuck => rw [h3] at h2; cases h2
                      | ok v L3 =>
                        rw [h3, R.bind_ok] at h2
                        cases h4 : evEs T C xs s L3 with
                        | stuck => rw [h4] at h2; cases h2
                        | ok vs L4 => rw [h4] at h2; cases h2
                    cases vs with
                    | nil => exact hv rfl
                    | cons _ _ => simp [popV] at e1
                | nil =>
                  cases es with
                  | cons _ _ => simp [isEs] at hs
                  | nil =>
                    refine ⟨_, pe_bm0 PySem.F.plainAttrs_list PySem.F.slot_list_pop PySem.F.type_list_pop mt_any (snd_e a g ha) (base_of hb) hp, at1 fun ρ1 H1 ad n1 em1 rx ty rd => ?_⟩
                    refine ⟨ty, pop_ok em1 rx (vs := []) rfl ?_⟩
                    simpa only [evEs, R.bind_ok, lmV] using rd
              · exfalso
                have hz : ∀ x vs L, lmV m x vs L = .stuck := by
                  intro x vs L
                  unfold lmV
                  split
                  · exact absurd rfl h1
                  · exact absurd rfl h2
                  · rfl
                obtain ⟨w, L', e1, _⟩ := rd0
                cases h2 : evEs T C xs s L1 with
                | stuck => rw [h2] at e1; cases e1
                | ok vs L2 => rw [h2, R.bind_ok, hz] at e1; cases e1
      | str z =>
        simp only at rd0
        by_cases h1 : m = "split"
        · subst h1
          cases xs with
          | nil =>
            exfalso
            simp only [evEs, R.bind_ok, smV, splitV] at rd0
            exact rd0.stuck
          | cons x0 xs =>
            cases es with
            | nil => simp [isEs] at hs
            | cons e0 es =>
              have pa := snd_es (x0 :: xs) g hs
              have hs' := hs
              simp only [isEs, Bool.and_eq_true] at hs'
              refine ⟨_, pe_bm PySem.F.plainAttrs_str PySem.F.slot_str_split PySem.F.type_str_split mt_any (snd_e a g ha) pa (base_of hb) (form_es hs hl p X.env) hp (inv_star hs'.1 _ _) (plain_es hs'.2 _ _), ?_⟩
              refine ⟨ρ, s, L, em, rs, _, _, hE, fun ρ1 H1 v1 n1 em1 r1 => ?_⟩
              obtain rfl : v1 = V.str (Str.ofString z) := r1
              have rd1 : Rd X.K cl ρ1 H1 ((evEs T C (x0 :: xs) s L1).bind fun vs L2 => smV "split" z vs L2) (RV X.K cl) Q := by
                obtain ⟨w, L', e1, q⟩ := rd0
                exact ⟨w, L', e1, fun ρ2 H2 v2 n2 em2 r2 => q ρ2 H2 v2 (n1.trans n2) em2 r2⟩
              exact ⟨rfl, ρ1, s, L1, em1, rs.nx em n1, (rd1.bind (RVs X.K cl)).imp fun vs' H2 ⟨ρ2, vs, L2, n2, em2, rvs, rd⟩ => split_ok em2 rvs rd⟩
        · exfalso
          have hz : ∀ vs L, smV m z vs L = .stuck := by
            intro vs L
            unfold smV
            split
            · exact absurd rfl h1
            · rfl
          obtain ⟨w, L', e1, _⟩ := rd0
          cases h2 : evEs T C xs s L1 with
          | stuck => rw [h2] at e1; cases e1
          | ok vs L2 => rw [h2, R.bind_ok, hz] at e1; cases e1
      | ob c ns ys0 =>
        simp only at rd0
        split at rd0
        · rename_i hf
          have at1 : ∀ {Q' : VK}, (∀ ρ1 H1, Nx ρ ρ1 H H1 → Em X.K cl ρ1 L1 H1 → ∀ ad ca, RV X.K cl ρ1 H1 (.ob c ns ys0) (.ref ad) → cl c = some ca → (∃ dx ys, H1 ad = some (.ins ca dx ys) ∧ ys.lookup (Str.ofString m) = none) → Rd X.K cl ρ1 H1 ((evEs T C xs s L1).bind fun vs L2 => C (c ++ "." ++ m) (.ob c ns ys0 :: (vs ++ ds)) L2) (RV X.K cl) Q → Q' (.ref ad) H1) → rdE X.K cl T C a σ H Q' := by
            intro Q' hq
            refine ⟨ρ, s, L, em, rs, _, _, hE, fun ρ1 H1 v1 n1 em1 r1 => ?_⟩
            have r1' := r1
            obtain ⟨ad, ca, dx, zs, rfl, hca, hH, _, hl2, rvs⟩ := r1
            refine hq ρ1 H1 n1 em1 ad ca r1' hca ⟨dx, _, hH, (lookup_ob (f := m) rvs hl2).2 hf⟩ ?_
            obtain ⟨w, L', e1, q⟩ := rd0
            exact ⟨w, L', e1, fun ρ2 H2 v2 n2 em2 r2 => q ρ2 H2 v2 (n1.trans n2) em2 r2⟩
          have dead : (∀ ρ1 H1, Nx ρ ρ1 H H1 → Em X.K cl ρ1 L1 H1 → ∀ ca, cl c = some ca → False) → ∃ u, PE X (.Call (.Attribute o (Str.ofString m) ap) es [] p) u ∧ u σ H Q := fun hf =>
            ⟨_, pe_dead (snd_e a g ha) form, at1 fun ρ1 H1 n1 em1 _ ca _ hc _ _ => hf ρ1 H1 n1 em1 ca hc⟩
          cases hc : cl c with
          | none => exact dead fun ρ1 H1 n1 em1 ca h1 => by rw [hc] at h1; cases h1
          | some ca =>
            rcases g.fc.mth m _ ds hS c ca hc with hst | ⟨fa, fd, ps, M, F, fl⟩
            · exfalso
              obtain ⟨w, L', e1, _⟩ := rd0
              cases h2 : evEs T C xs s L1 with
              | stuck => rw [h2] at e1; cases e1
              | ok vs L2 => rw [h2, R.bind_ok, hst] at e1; cases e1
            · obtain ⟨dv, dV, r1, r2, r3⟩ := fl
              cases xs with
              | nil =>
                cases es with
                | cons _ _ => simp [isEs] at hs
                | nil =>
                  refine ⟨_, pe_meth0 (snd_e a g ha) (g.fc.cls c ca hc) M F (g.room.mono (Nat.le_succ _)) r2 r1 pass0 form, at1 fun ρ1 H1 n1 em1 ad ca' rv hc' hx rd => ?_⟩
                  rw [hc] at hc'; cases hc'
                  obtain ⟨dx, ys, h1, h2⟩ := hx
                  refine ⟨ad, dx, ys, rfl, h1, h2, ρ1, .ob c ns ys0 :: ds, L1, em1, ⟨_, _, rfl, rv, r3 _ _⟩, ?_⟩
                  simpa only [evEs, R.bind_ok, List.nil_append] using rd
              | cons x0 xs =>
                cases es with
                | nil => simp [isEs] at hs
                | cons e0 es =>
                  have pa := snd_es (x0 :: xs) g hs
                  have hs' := hs
                  simp only [isEs, Bool.and_eq_true] at hs'
                  refine ⟨_, pe_meth (snd_e a g ha) (g.fc.cls c ca hc) M F (g.room.mono (Nat.le_succ _)) r2 r1 pass0 pa (inv_star hs'.1 _ _) (plain_es hs'.2 _ _) form, at1 fun ρ1 H1 n1 em1 ad ca' rv hc' hx rd => ?_⟩
                  rw [hc] at hc'; cases hc'
                  obtain ⟨dx, ys, h1, h2⟩ := hx
                  refine ⟨ad, dx, ys, rfl, h1, h2, ρ1, s, L1, em1, rs.nx em n1, (rd.bind (RVs X.K cl)).imp fun vs' H2 ⟨ρ2, vs, L2, n2, em2, rvs, rd⟩ => ?_⟩
                  exact ⟨ρ2, .ob c ns ys0 :: (vs ++ ds), L2, em2, ⟨_, _, rfl, RV.nx em1 n2 rv, rvs.app (r3 _ _)⟩, rd⟩
        · exact rd0.stuck.elim
      | _ => exact rd0.stuck.elim
  | .idx a i, X, sc, wsc, e, g, h => by
    obtain ⟨o, kk, p, rfl, ha, hi, hn⟩ := inv_idx h
    refine PE.ex fun σ H Q q => ⟨_, pe_ix ix_any (snd_e a g ha) (snd_e i g hi) (plain_ix hn), ?_⟩
    obtain ⟨ρ, s, L, em, rs, rd⟩ := q
    simp only [evE] at rd
    refine ⟨ρ, s, L, em, rs, (rd.bind (RV X.K cl)).imp fun x' H1 ⟨ρ1, x, L1, n1, em1, rx, rd⟩ => ⟨ρ1, s, L1, em1, rs.nx em n1, (rd.bind (RV X.K cl)).imp fun y' H2 ⟨ρ2, y, L2, n2, em2, ry, rd⟩ => ?_⟩⟩
    split at rd
    · obtain ⟨v, hv, rd⟩ := rd.of
      obtain ⟨ws, h1, h2⟩ := Option.bind_eq_some_iff.mp hv
      cases ry
      obtain ⟨ad, ys, rfl, sq, rvs⟩ := seqAt_sq em2 (rx.nx em1 n2) h1
      obtain ⟨v', h3, h4⟩ := at_rv rvs h2
      rcases sq with sq | sq
      · exact ⟨_, ix_list, ad, ys, _, v', rfl, rfl, sq, h3, rd.ok em2 h4⟩
      · exact ⟨_, ix_tup, ad, ys, _, v', rfl, rfl, sq, h3, rd.ok em2 h4⟩
    · exact rd.stuck.elim
  | .slc a lo hi, X, sc, wsc, e, g, h => by
    obtain ⟨o, l, u, qq, p, rfl, ha, hlo, hhi⟩ := inv_slc h
    refine PE.ex fun σ H Q q => ⟨_, pe_slice sl_any (snd_e a g ha) (snd_o lo g hlo) (snd_o hi g hhi), ?_⟩
    obtain ⟨ρ, s, L, em, rs, rd⟩ := q
    simp only [evE] at rd
    refine ⟨ρ, s, L, em, rs, (rd.bind (RV X.K cl)).imp fun x' H1 ⟨ρ1, x, L1, n1, em1, rx, rd⟩ => ⟨ρ1, s, L1, em1, rs.nx em n1, (rd.bind ROI).imp fun l' H2 ⟨ρ2, l, L2, n2, em2, rl, rd⟩ => ⟨ρ2, s, L2, em2, (rs.nx em n1).nx em1 n2, (rd.bind ROI).imp fun u' H3 ⟨ρ3, u, L3, n3, em3, ru, rd⟩ => ?_⟩⟩⟩
    cases rl; cases ru
    have rx3 := (rx.nx em1 n2).nx em2 n3
    split at rd
    · obtain ⟨ad, ys, rfl, sq, rvs⟩ := rx3
      have cut := cut_rvs rvs l' u'
      refine ⟨_, sl_tupA, ad, ys, rfl, sq, fun hw => ?_, fun _ => new_tup em3 cut rd⟩
      refine rd.ok em3 ⟨ad, ys, rfl, sq, ?_⟩
      have e : cutV ys l' u' = ys := by
        unfold cutV
        rw [hw.1, hw.2, List.drop_zero, Nat.sub_zero, List.take_length]
      rw [e] at cut
      exact cut
    · split at rd
      · rename_i hs
        obtain ⟨ad, ys, rfl, sq, rvs⟩ := lstAt_sq em3 rx3 hs
        exact ⟨_, sl_list, ad, ys, rfl, sq, new_lst em3 (cut_rvs rvs _ _) rd⟩
      · exact rd.stuck.elim
  | .cpr elt tg src cond own, X, sc, wsc, e, g, h => by
    obtain ⟨el, t, i, ifs, scope, p, rfl, hi, hg, he, hc, hb, ho⟩ := inv_cpr h
    have pi := snd_i src g hi
    have pg : ∀ (s : Shared) (H : Hp) (c : Addr) (cs : List (Str × Addr)) (fp : List Addr), PG (X.blk s H scope (compEnvC scope cs c X.env) fp) t (rdG X.K cl T C tg) := fun s H c cs fp => snd_g tg (g.blk scope s H c cs fp) hg
    have pt : ∀ (s : Shared) (H : Hp) (c : Addr) (cs : List (Str × Addr)) (fp : List Addr), PTs (X.blk s H scope (compEnvC scope cs c X.env) fp) ifs (rdC X.K cl T C cond) := fun s H c cs fp => snd_c cond (g.blk scope s H c cs fp) hc
    have pe : ∀ (s : Shared) (H : Hp) (c : Addr) (cs : List (Str × Addr)) (fp : List Addr), PE (X.blk s H scope (compEnvC scope cs c X.env) fp) el (rdE X.K cl T C elt) := fun s H c cs fp => snd_e elt (g.blk scope s H c cs fp) he
    refine PE.ex fun σ H Q q => ⟨_, pe_lc g.calm g.nd pi (own := own.map fun i => (N.getD i Str.empty, i)) (blkOk_by (by rw [g.N, g.hsc]; exact hb)) pg pt pe (fold_of hi X.env), ?_⟩
    rw [own_snd]
    exact lc_read ho q
  | .cpr2 elt tg src cond tg1 src1 cond1 own own1, X, sc, wsc, e, g, h => by
    obtain ⟨el, t, i, ifs, t1, i1, ifs1, scope, p, rfl, hi, hg, hc, hi1, hg1, hc1, he, hb, ho, ho1, hoo⟩ := inv_cpr2 h
    have pi := snd_i src g hi
    have pg : ∀ (s : Shared) (H : Hp) (c : Addr) (cs : List (Str × Addr)) (fp : List Addr), PG (X.blk s H scope (compEnvC scope cs c X.env) fp) t (rdG X.K cl T C tg) := fun s H c cs fp => snd_g tg (g.blk scope s H c cs fp) hg
    have pt : ∀ (s : Shared) (H : Hp) (c : Addr) (cs : List (Str × Addr)) (fp : List Addr), PTs (X.blk s H scope (compEnvC scope cs c X.env) fp) ifs (rdC X.K cl T C cond) := fun s H c cs fp => snd_c cond (g.blk scope s H c cs fp) hc
    have pi1 : ∀ (s : Shared) (H : Hp) (c : Addr) (cs : List (Str × Addr)) (fp : List Addr), PI (X.blk s H scope (compEnvC scope cs c X.env) fp) t1 i1 (rdI X.K cl T C src1) := fun s H c cs fp => snd_i src1 (g.blk scope s H c cs fp) hi1
    have pg1 : ∀ (s : Shared) (H : Hp) (c : Addr) (cs : List (Str × Addr)) (fp : List Addr), PG (X.blk s H scope (compEnvC scope cs c X.env) fp) t1 (rdG X.K cl T C tg1) := fun s H c cs fp => snd_g tg1 (g.blk scope s H c cs fp) hg1
    have pt1 : ∀ (s : Shared) (H : Hp) (c : Addr) (cs : List (Str × Addr)) (fp : List Addr), PTs (X.blk s H scope (compEnvC scope cs c X.env) fp) ifs1 (rdC X.K cl T C cond1) := fun s H c cs fp => snd_c cond1 (g.blk scope s H c cs fp) hc1
    have pe : ∀ (s : Shared) (H : Hp) (c : Addr) (cs : List (Str × Addr)) (fp : List Addr), PE (X.blk s H scope (compEnvC scope cs c X.env) fp) el (rdE X.K cl T C elt) := fun s H c cs fp => snd_e elt (g.blk scope s H c cs fp) he
    refine PE.ex fun σ H Q q => ⟨_, pe_lc2 g.calm g.nd pi (own := own.map fun i => (N.getD i Str.empty, i)) (vs1 := own1) (blkOk_by (by rw [g.N, g.hsc]; exact hb)) (by rw [own_snd]; exact hoo) pg pt pi1 pg1 pt1 pe (fold_of hi X.env) (fun env => fold_of hi1 env), ?_⟩
    rw [own_snd]
    exact lc2_read ho ho1 q
termination_by E => (sizeOf E, 0)
theorem snd_t : ∀ (E : Ex) {X : Cx} {sc wsc : Scope} {e : Expr}, Good X N sc wsc k cl T C S → isE N S sc E e = true → PT X e (rdT X.K cl T C E)
  | .frz a, X, sc, wsc, e, g, h => PT.ex fun σ H Q q => ⟨_, snd_t a g (inv_frz h), rdT_frz q⟩
  | .not a, X, sc, wsc, e, g, h => by
    obtain ⟨l, p, rfl, ha⟩ := inv_not h
    refine PT.ex fun σ H Q q => ⟨_, pt_not (snd_t a g ha), ?_⟩
    obtain ⟨ρ, s, L, em, rs, rd⟩ := q
    rw [asB_not] at rd
    exact ⟨ρ, s, L, em, rs, (rd.bind RB).imp fun x' H1 ⟨ρ1, x, L1, n1, em1, rx, rd⟩ => by cases rx; exact rd.ok em1 rfl⟩
  | .and a b, X, sc, wsc, e, g, h => by
    obtain ⟨x, y, r, p, rfl, ha, hb⟩ := inv_and h
    exact (snd_w (.and a b) g h ⟨_, _, _, rfl⟩).pt
  | .or a b, X, sc, wsc, e, g, h => by
    obtain ⟨x, y, r, p, rfl, ha, hb⟩ := inv_or h
    exact (snd_w (.or a b) g h ⟨_, _, _, rfl⟩).pt
  | .cmp op a b, X, sc, wsc, e, g, h => by
    obtain ⟨l, o, r, p, rfl, ho, ha, hb, hm, hS⟩ := inv_cmp h
    exact PT.ex fun σ H Q q => ⟨_, pt_cmpR op_any (snd_e a g ha) (snd_e b g hb) hm, cmp_read g ho hS (rdT_E q)⟩
  | .chn o1 o2 a b c, X, sc, wsc, e, g, h => by
    obtain ⟨l, p1, p2, m, r, p, rfl, h1, h2, ha, hb, hc, m1, m2⟩ := inv_chn h
    exact PT.ex fun σ H Q q => ⟨_, pt_chain op_any op_any (snd_e a g ha) (snd_e b g hb) (snd_e c g hc) m2, chn_read g.room.units h1 h2 (rdT_E q)⟩
  | .ite c a b, X, sc, wsc, e, g, h => by
    obtain ⟨t, l, r, p, rfl, hc, ha, hb⟩ := inv_ite h
    have pc := snd_t c g hc
    have pa := snd_t a g ha
    have pb := snd_t b g hb
    refine ⟨fun pins s0 σ H Q I q => ?_⟩
    obtain ⟨ρ, s, L, em, rs, rd⟩ := q
    rw [asB_ite (X := X), R.bind_assoc] at rd
    refine isTrue_IfExp (thn (pc.run pins s0 σ H _ I ⟨ρ, s, L, em, rs, (rd.bind RB)⟩) fun bb s1 ⟨H1, I1, ρ1, x, L1, n1, em1, rx, rd⟩ => ?_)
    cases rx
    cases bb with
    | true => exact pa.run pins s1 σ H1 _ I1 ⟨ρ1, s, L1, em1, rs.nx em n1, rd⟩
    | false => exact pb.run pins s1 σ H1 _ I1 ⟨ρ1, s, L1, em1, rs.nx em n1, rd⟩
  | .var i, X, sc, wsc, e, g, h => by
    obtain ⟨x, p, rfl, _⟩ := inv_var h
    exact pt_of (snd_e _ g h) (by intro _; rfl)
  | .con v, X, sc, wsc, e, g, h => by
    have h' := h
    obtain ⟨j, p, ⟨_, rfl⟩ | ⟨_, _, rfl⟩ | ⟨_, _, rfl⟩ | ⟨_, _, rfl⟩⟩ := inv_con h' <;> exact pt_of (snd_e _ g h) (by intro _; rfl)
  | .glo x, X, sc, wsc, e, g, h => by
    obtain ⟨p, rfl, _⟩ := inv_glo h
    exact pt_of (snd_e _ g h) (by intro _; rfl)
  | .bin op a b, X, sc, wsc, e, g, h => by
    obtain ⟨_, _, _, _, rfl, _⟩ := inv_bin h
    exact pt_of (snd_e _ g h) (by intro _; rfl)
  | .neg a, X, sc, wsc, e, g, h => by
    obtain ⟨_, _, rfl, _⟩ := inv_neg h
    exact pt_of (snd_e _ g h) (by intro _; rfl)
  | .tup xs, X, sc, wsc, e, g, h => by
    obtain ⟨_, _, _, rfl, _⟩ := inv_tup h
    exact pt_of (snd_e _ g h) (by intro _; rfl)
  | .lst xs, X, sc, wsc, e, g, h => by
    obtain ⟨_, _, rfl, _⟩ := inv_lst h
    exact pt_of (snd_e _ g h) (by intro _; rfl)
  | .dic _ _, X, sc, wsc, e, g, h => (inv_dic h).elim
  | .call f xs ds, X, sc, wsc, e, g, h => by
    obtain ⟨_, _, _, rfl, _⟩ := inv_call h
    exact pt_of (snd_e _ g h) (by intro _; rfl)
  | .calk f xs ks zs ds, X, sc, wsc, e, g, h => by
    obtain ⟨_, _, _, _, rfl, _⟩ := inv_calk h
    exact pt_of (snd_e _ g h) (by intro _; rfl)
  | .new f xs ds, X, sc, wsc, e, g, h => by
    obtain ⟨_, _, _, rfl, _⟩ := inv_new h
    exact pt_of (snd_e _ g h) (by intro _; rfl)
  | .blt f xs, X, sc, wsc, e, g, h => by
    obtain ⟨_, _, _, rfl, _⟩ := inv_blt h
    exact pt_of (snd_e _ g h) (by intro _; rfl)
  | .isi a ts, X, sc, wsc, e, g, h => by
    obtain ⟨_, _, _, _, _, _, rfl, _⟩ := inv_isi h
    exact pt_of (snd_e _ g h) (by intro _; rfl)
  | .fld a f, X, sc, wsc, e, g, h => by
    obtain ⟨_, _, rfl, _⟩ := inv_fld h
    exact pt_of (snd_e _ g h) (by intro _; rfl)
  | .mth a m xs ds, X, sc, wsc, e, g, h => by
    obtain ⟨_, _, _, _, rfl, _⟩ := inv_mth h
    exact pt_of (snd_e _ g h) (by intro _; rfl)
  | .idx a i, X, sc, wsc, e, g, h => by
    obtain ⟨_, _, _, rfl, _⟩ := inv_idx h
    exact pt_of (snd_e _ g h) (by intro _; rfl)
  | .slc a lo hi, X, sc, wsc, e, g, h => by
    obtain ⟨_, _, _, _, _, rfl, _⟩ := inv_slc h
    exact pt_of (snd_e _ g h) (by intro _; rfl)
  | .cpr elt tg src cond own, X, sc, wsc, e, g, h => by
    obtain ⟨_, _, _, _, _, _, rfl, _⟩ := inv_cpr h
    exact pt_of (snd_e _ g h) (by intro _; rfl)
  | .cpr2 elt tg src cond tg1 src1 cond1 own own1, X, sc, wsc, e, g, h => by
    obtain ⟨_, _, _, _, _, _, _, _, _, rfl, _⟩ := inv_cpr2 h
    exact pt_of (snd_e _ g h) (by intro _; rfl)
  | .scl c m xs ds, X, sc, wsc, e, g, h => by
    obtain ⟨_, _, _, _, rfl, _⟩ := inv_scl h
    exact pt_of (snd_e _ g h) (by intro _; rfl)
termination_by E => (sizeOf E, 2)
theorem snd_w : ∀ (E : Ex) {X : Cx} {sc wsc : Scope} {e : Expr}, Good X N sc wsc k cl T C S → isE N S sc E e = true → (∃ o vs p, e = .BoolOp o vs p) → PW X e (rdT X.K cl T C E)
  | .frz a, X, sc, wsc, e, g, h, hz => ⟨fun wh pins s0 σ H Q I q => (snd_w a g (inv_frz h) hz).run wh pins s0 σ H Q I (rdT_frz q)⟩
  | .and a b, X, sc, wsc, e, g, h, _ => by
    obtain ⟨x, y, r, p, rfl, ha, hb⟩ := inv_and h
    have pb : PW X (.BoolOp .And (y :: r) p) (rdT X.K cl T C b) := by
      rcases hb with ⟨rfl, hb⟩ | ⟨z, t, rfl, hb⟩
      · exact pw_and1 (snd_t b g hb)
      · exact snd_w b g hb ⟨_, _, _, rfl⟩
    have pa := pw_and (snd_t a g ha) pb
    refine ⟨fun wh pins s0 σ H Q I q => pa.run wh pins s0 σ H Q I ?_⟩
    obtain ⟨ρ, s, L, em, rs, rd⟩ := q
    rw [asB_and] at rd
    refine ⟨ρ, s, L, em, rs, (rd.bind RB).imp fun x' H1 ⟨ρ1, x, L1, n1, em1, rx, rd⟩ => ?_⟩
    cases rx
    cases x' with
    | true => rw [if_pos rfl] at rd ⊢; exact ⟨ρ1, s, L1, em1, rs.nx em n1, rd⟩
    | false => rw [if_neg Bool.false_ne_true] at rd ⊢; exact rd.ok em1 rfl
  | .or a b, X, sc, wsc, e, g, h, _ => by
    obtain ⟨x, y, r, p, rfl, ha, hb⟩ := inv_or h
    have pb : PW X (.BoolOp .Or (y :: r) p) (rdT X.K cl T C b) := by
      rcases hb with ⟨rfl, hb⟩ | ⟨z, t, rfl, hb⟩
      · exact pw_or1 (snd_t b g hb)
      · exact snd_w b g hb ⟨_, _, _, rfl⟩
    have pa := pw_or (snd_t a g ha) pb
    refine ⟨fun wh pins s0 σ H Q I q => pa.run wh pins s0 σ H Q I ?_⟩
    obtain ⟨ρ, s, L, em, rs, rd⟩ := q
    rw [asB_or] at rd
    refine ⟨ρ, s, L, em, rs, (rd.bind RB).imp fun x' H1 ⟨ρ1, x, L1, n1, em1, rx, rd⟩ => ?_⟩
    cases rx
    cases x' with
    | true => rw [if_pos rfl] at rd ⊢; exact rd.ok em1 rfl
    | false => rw [if_neg Bool.false_ne_true] at rd ⊢; exact ⟨ρ1, s, L1, em1, rs.nx em n1, rd⟩
  | .con v, X, sc, wsc, e, g, h, ⟨_, _, _, z⟩ => by
    subst z
    obtain ⟨j, p, ⟨_, z⟩ | ⟨_, _, z⟩ | ⟨_, _, z⟩ | ⟨_, _, z⟩⟩ := inv_con h <;> cases z
  | .isi a ts, X, sc, wsc, e, g, h, ⟨_, _, _, z⟩ => by
    subst z
    obtain ⟨_, _, _, _, _, _, z, _⟩ := inv_isi h
    cases z
  | .var _, X, sc, wsc, e, g, h, ⟨_, _, _, z⟩ => by subst z; simp [isE] at h
  | .glo _, X, sc, wsc, e, g, h, ⟨_, _, _, z⟩ => by subst z; simp [isE] at h
  | .bin _ _ _, X, sc, wsc, e, g, h, ⟨_, _, _, z⟩ => by subst z; simp [isE] at h
  | .neg _, X, sc, wsc, e, g, h, ⟨_, _, _, z⟩ => by subst z; simp [isE] at h
  | .cmp _ _ _, X, sc, wsc, e, g, h, ⟨_, _, _, z⟩ => by subst z; simp [isE] at h
  | .chn _ _ _ _ _, X, sc, wsc, e, g, h, ⟨_, _, _, z⟩ => by subst z; simp [isE] at h
  | .ite _ _ _, X, sc, wsc, e, g, h, ⟨_, _, _, z⟩ => by subst z; simp [isE] at h
  | .not _, X, sc, wsc, e, g, h, ⟨_, _, _, z⟩ => by subst z; simp [isE] at h
  | .tup _, X, sc, wsc, e, g, h, ⟨_, _, _, z⟩ => by subst z; simp [isE] at h
  | .lst _, X, sc, wsc, e, g, h, ⟨_, _, _, z⟩ => by subst z; simp [isE] at h
  | .dic _ _, X, sc, wsc, e, g, h, ⟨_, _, _, z⟩ => by subst z; simp [isE] at h
  | .call _ _ _, X, sc, wsc, e, g, h, ⟨_, _, _, z⟩ => by subst z; simp [isE] at h
  | .new _ _ _, X, sc, wsc, e, g, h, ⟨_, _, _, z⟩ => by subst z; simp [isE] at h
  | .calk _ _ _ _ _, X, sc, wsc, e, g, h, ⟨_, _, _, z⟩ => by subst z; simp [isE] at h
  | .blt _ _, X, sc, wsc, e, g, h, ⟨_, _, _, z⟩ => by subst z; simp [isE] at h
  | .fld _ _, X, sc, wsc, e, g, h, ⟨_, _, _, z⟩ => by subst z; simp [isE] at h
  | .mth _ _ _ _, X, sc, wsc, e, g, h, ⟨_, _, _, z⟩ => by subst z; simp [isE] at h
  | .idx _ _, X, sc, wsc, e, g, h, ⟨_, _, _, z⟩ => by subst z; simp [isE] at h
  | .slc _ _ _, X, sc, wsc, e, g, h, ⟨_, _, _, z⟩ => by subst z; simp [isE] at h
  | .cpr _ _ _ _ _, X, sc, wsc, e, g, h, ⟨_, _, _, z⟩ => by subst z; simp [isE] at h
  | .cpr2 _ _ _ _ _ _ _ _ _, X, sc, wsc, e, g, h, ⟨_, _, _, z⟩ => by subst z; simp [isE] at h
  | .scl _ _ _ _, X, sc, wsc, e, g, h, ⟨_, _, _, z⟩ => by subst z; simp [isE] at h
termination_by E => (sizeOf E, 1)
theorem snd_es : ∀ (E : List Ex) {X : Cx} {sc wsc : Scope} {e : List Expr}, Good X N sc wsc k cl T C S → isEs N S sc E e = true → PA X e (rdA X.K cl T C E)
  | [], X, sc, wsc, e, g, h => by
    cases e with
    | cons _ _ => simp [isEs] at h
    | nil =>
      refine PA.ex fun σ H Q q => ⟨_, pa_nil, ?_⟩
      obtain ⟨ρ, s, L, em, rs, rd⟩ := q
      simp only [evEs] at rd
      exact rd.ok em rfl
  | x :: xs, X, sc, wsc, e, g, h => by
    cases e with
    | nil => simp [isEs] at h
    | cons e es =>
      simp only [isEs, Bool.and_eq_true] at h
      refine PA.ex fun σ H Q q => ⟨_, pa_cons (snd_e x g h.1) (snd_es xs g h.2) (inv_star h.1 _ _), ?_⟩
      obtain ⟨ρ, s, L, em, rs, rd⟩ := q
      simp only [evEs] at rd
      refine ⟨ρ, s, L, em, rs, (rd.bind (RV X.K cl)).imp fun x' H1 ⟨ρ1, x, L1, n1, em1, rx, rd⟩ => ⟨ρ1, s, L1, em1, rs.nx em n1, (rd.bind (RVs X.K cl)).imp fun y' H2 ⟨ρ2, y, L2, n2, em2, ry, rd⟩ => ?_⟩⟩
      exact rd.ok em2 ⟨_, _, rfl, rx.nx em1 n2, ry⟩
termination_by E => (sizeOf E, 0)
theorem snd_ks : ∀ (zs : List Ex) {X : Cx} {sc wsc : Scope} {ks : List String} {kws : List Keyword}, Good X N sc wsc k cl T C S → isKs N S sc ks zs kws = true → PK X kws (rdA X.K cl T C zs)
  | [], X, sc, wsc, ks, kws, g, h => by
    match ks, kws, h with
    | [], [], h =>
      refine ⟨fun pos pins s0 σ H Q I q => pk_nil.run pos pins s0 σ H Q I ?_⟩
      obtain ⟨ρ, s, L, em, rs, rd⟩ := q
      simp only [evEs] at rd
      exact rd.ok em rfl
    | [], _ :: _, h => simp [isKs] at h
    | _ :: _, _, h => simp [isKs] at h
  | z :: zs, X, sc, wsc, ks, kws, g, h => by
    match ks, kws, h with
    | [], _, h => simp [isKs] at h
    | _ :: _, [], h => simp [isKs] at h
    | _ :: _, ⟨none, _, _⟩ :: _, h => simp [isKs] at h
    | _ :: ks, ⟨some n, v, q⟩ :: kws, h =>
      simp only [isKs, Bool.and_eq_true] at h
      refine ⟨fun pos pins s0 σ H Q I q => (pk_cons (snd_e z g h.1.2) (snd_ks zs g h.2)).run pos pins s0 σ H Q I ?_⟩
      obtain ⟨ρ, s, L, em, rs, rd⟩ := q
      simp only [evEs] at rd
      refine ⟨ρ, s, L, em, rs, (rd.bind (RV X.K cl)).imp fun x' H1 ⟨ρ1, x, L1, n1, em1, rx, rd⟩ => ⟨ρ1, s, L1, em1, rs.nx em n1, (rd.bind (RVs X.K cl)).imp fun y' H2 ⟨ρ2, y, L2, n2, em2, ry, rd⟩ => ?_⟩⟩
      exact rd.ok em2 ⟨_, _, rfl, rx.nx em1 n2, ry⟩
termination_by zs => (sizeOf zs, 0)
theorem snd_o : ∀ (E : Option Ex) {X : Cx} {sc wsc : Scope} {e : Option Expr}, Good X N sc wsc k cl T C S → isO N S sc E e = true → PO X e (rdO X.K cl T C E)
  | none, X, sc, wsc, e, g, h => by
    cases e with
    | some _ => simp [isO] at h
    | none =>
      refine ⟨fun pins s0 σ H Q I q => po_none.run pins s0 σ H Q I ?_⟩
      obtain ⟨ρ, s, L, em, rs, rd⟩ := q
      simp only [evO] at rd
      exact rd.ok em rfl
  | some x, X, sc, wsc, e, g, h => by
    cases e with
    | none => simp [isO] at h
    | some e =>
      simp only [isO] at h
      refine ⟨fun pins s0 σ H Q I q => (po_some (snd_e x g h)).run pins s0 σ H Q I ?_⟩
      obtain ⟨ρ, s, L, em, rs, rd⟩ := q
      simp only [evO] at rd
      refine ⟨ρ, s, L, em, rs, (rd.bind (RV X.K cl)).imp fun x' H1 ⟨ρ1, x, L1, n1, em1, rx, rd⟩ => ?_⟩
      split at rd
      · cases rx
        exact ⟨_, rfl, rd.ok em1 rfl⟩
      · exact rd.stuck.elim
termination_by E => (sizeOf E, 0)
theorem snd_c : ∀ (E : Option Ex) {X : Cx} {sc wsc : Scope} {e : List Expr}, Good X N sc wsc k cl T C S → isC N S sc E e = true → PTs X e (rdC X.K cl T C E)
  | none, X, sc, wsc, e, g, h => by
    cases e with
    | cons _ _ => simp [isC] at h
    | nil =>
      refine ⟨fun pins s0 σ H Q I q => pts_nil.run pins s0 σ H Q I ?_⟩
      obtain ⟨ρ, s, L, em, rs, rd⟩ := q
      simp only [evC] at rd
      exact rd.ok em rfl
  | some x, X, sc, wsc, e, g, h => by
    match e, h with
    | [], h => simp [isC] at h
    | [e], h =>
      simp only [isC] at h
      refine ⟨fun pins s0 σ H Q I q => (pts_one (snd_t x g h)).run pins s0 σ H Q I ?_⟩
      obtain ⟨ρ, s, L, em, rs, rd⟩ := q
      simp only [evC] at rd
      exact ⟨ρ, s, L, em, rs, rd⟩
    | _ :: _ :: _, h => simp [isC] at h
termination_by E => (sizeOf E, 0)
theorem snd_g : ∀ (E : Tg) {X : Cx} {sc wsc : Scope} {e : Expr}, Good X N sc wsc k cl T C S → isG N S sc wsc E e = true → PG X e (rdG X.K cl T C E)
  | .nm i, X, sc, wsc, e, g, h => by
    cases e with
    | Name x p =>
      simp only [isG, Bool.and_eq_true, decide_eq_true_eq] at h
      obtain ⟨hN, hl⟩ := h
      obtain ⟨h1, h2⟩ := g.fn x hl
      refine PG.ex fun v σ H Q q => ⟨_, pg_name (i := i) g.nd (by rw [g.N]; exact hN) h1 h2, ?_⟩
      obtain ⟨ρ, s, L, x, em, rs, rv, rd⟩ := q
      simp only [evG] at rd
      split at rd
      · exact rd.ok em ⟨rs.set rv, fun own h => wipe_set (h i (by simp [tgN]))⟩
      · exact rd.stuck.elim
    | _ => simp [isG] at h
  | .tup ts, X, sc, wsc, e, g, h => by
    cases e with
    | Tuple es kk p =>
      simp only [isG] at h
      obtain ⟨h1, h2⟩ := isGs_each h X.env
      refine PG.ex fun v σ H Q q => ⟨_, pg_tup g.calm (snd_gs ts g h) h1 h2, ?_⟩
      obtain ⟨ρ, s, L, x, em, rs, rv, rd⟩ := q
      simp only [evG] at rd
      split at rd
      · obtain ⟨a, ys, rfl, sq, rvs⟩ := rv
        refine ⟨a, ys, rfl, sq, ?_, ρ, s, L, _, em, rs, rvs, rd⟩
        obtain ⟨_, _, e1, _⟩ := rd
        rw [rvs.len, evGs_len e1]
      · exact rd.stuck.elim
    | _ => simp [isG] at h
  | .sub o i, X, sc, wsc, e, g, h => by
    cases e with
    | Subscript eo ei p =>
      simp only [isG, Bool.and_eq_true] at h
      obtain ⟨⟨h1, h2⟩, h3⟩ := h
      have hn : ∀ l u s q, ei ≠ .Slice l u s q := fun l u s q z => by subst z; simp at h3
      refine PG.ex fun v σ H Q q => ⟨_, pg_sub (snd_e o g h1) (snd_e i g h2) set_list (sub_form hn), ?_⟩
      obtain ⟨ρ, s, L, x, em, rs, rv, rd⟩ := q
      simp only [evG] at rd
      refine ⟨ρ, s, L, em, rs, (rd.bind (RV X.K cl)).imp fun x' H1 ⟨ρ1, y, L1, n1, em1, ry, rd⟩ => ⟨ρ1, s, L1, em1, rs.nx em n1, (rd.bind (RV X.K cl)).imp fun z' H2 ⟨ρ2, z, L2, n2, em2, rz, rd⟩ => ?_⟩⟩
      split at rd
      · rename_i aa kk _ _
        split at rd
        · rename_i xs hL
          split at rd
          · rename_i j hj
            obtain ⟨ad, rfl, ha⟩ := RV.nx em1 n2 ry
            cases rz
            obtain ⟨ys, hH, rys⟩ := em2.obj _ _ ad hL ha
            have rv2 := RV.nx em1 n2 (RV.nx em n1 rv)
            obtain ⟨em3, n3⟩ := put_lst em2 ha (rys.set j rv2)
            refine ⟨ad, ys, kk, j, rfl, rfl, hH, by rw [rys.len]; exact hj, ?_⟩
            exact rd.ok' n3 em3 ⟨((rs.nx em n1).nx em1 n2).nx em2 n3, fun _ _ => rfl⟩
          · exact rd.stuck.elim
        · exact rd.stuck.elim
      · exact rd.stuck.elim
    | _ => simp [isG] at h
  | .fld o f, X, sc, wsc, e, g, h => by
    cases e with
    | Attribute eo gg p =>
      simp only [isG, Bool.and_eq_true, decide_eq_true_eq] at h
      obtain ⟨⟨h1, h2⟩, h3⟩ := h
      subst h1
      refine PG.ex fun v σ H Q q => ⟨_, pg_fld (snd_e o g h3), ?_⟩
      obtain ⟨ρ, s, L, x, em, rs, rv, rd⟩ := q
      simp only [evG] at rd
      refine ⟨ρ, s, L, em, rs, (rd.bind (RV X.K cl)).imp fun x' H1 ⟨ρ1, y, L1, n1, em1, ry, rd⟩ => ?_⟩
      split at rd
      · split at rd
        · rename_i a KK fs hL
          split at rd
          · rename_i hlen
            obtain ⟨ad, rfl, ha⟩ := ry
            obtain ⟨cc, dx, ys, hcl, hH, rfs⟩ := em1.obj _ _ ad hL ha
            have rv1 := RV.nx em n1 rv
            obtain ⟨em2, n2⟩ := em1.put (u := .ins cc dx (putF (Str.ofString f) v ys)) (o := .ins KK (putFL f x fs)) ha rfl fun nx => ⟨cc, dx, _, hcl, upd_same, put_rfs (RV.nx em1 nx rv1) (RFs.nx em1 nx rfs)⟩
            refine ⟨ad, cc, dx, ys, rfl, hH, g.fc.cls _ _ hcl, g.fc.fld f h2 _ _ hcl, by rw [rfs.len]; omega, ?_⟩
            exact rd.ok' n2 em2 ⟨(rs.nx em n1).nx em1 n2, fun _ _ => rfl⟩
          · exact rd.stuck.elim
        · exact rd.stuck.elim
      · exact rd.stuck.elim
    | _ => simp [isG] at h
termination_by E => (sizeOf E, 0)
theorem snd_gs : ∀ (E : List Tg) {X : Cx} {sc wsc : Scope} {e : List Expr}, Good X N sc wsc k cl T C S → isGs N S sc wsc E e = true → PGs X e (rdGs X.K cl T C E)
  | [], X, sc, wsc, e, g, h => by
    cases e with
    | cons _ _ => simp [isGs] at h
    | nil =>
      refine ⟨fun pins s0 σ H vs us Q I r q => pgs_nil.run pins s0 σ H vs us Q I r ?_⟩
      obtain ⟨ρ, s, L, xs, em, rs, rv, rd⟩ := q
      cases xs with
      | nil =>
        simp only [evGs] at rd
        exact ⟨rv, rd.ok em ⟨rs, fun _ _ => rfl⟩⟩
      | cons _ _ =>
        simp only [evGs] at rd
        exact rd.stuck.elim
  | t :: ts, X, sc, wsc, e, g, h => by
    cases e with
    | nil => simp [isGs] at h
    | cons e es =>
      simp only [isGs, Bool.and_eq_true] at h
      refine ⟨fun pins s0 σ H vs us Q I r q => (pgs_cons (snd_g t g h.1) (snd_gs ts g h.2) (by rw [isG_star h.1]; rfl)).run pins s0 σ H vs us Q I r ?_⟩
      obtain ⟨ρ, s, L, xs, em, rs, rv, rd⟩ := q
      cases xs with
      | nil =>
        simp only [evGs] at rd
        exact rd.stuck.elim
      | cons x xs =>
        simp only [evGs] at rd
        obtain ⟨v, vr, rfl, rx, rxs⟩ := rv
        refine ⟨v, vr, rfl, ρ, s, L, x, em, rs, rx, (rd.bind (RG X.K cl (tgN t) σ)).imp fun σ2 H2 ⟨ρ2, s2, L2, n2, em2, ⟨rs2, hw⟩, rd⟩ => ⟨ρ2, s2, L2, xs, em2, rs2, RVs.nx em n2 rxs, ?_⟩⟩
        obtain ⟨w, L', e1, q⟩ := rd
        refine ⟨w, L', e1, fun ρ3 H3 σ3 n3 em3 ⟨rs3, hw3⟩ => q ρ3 H3 σ3 n3 em3 ⟨rs3, fun own ho => ?_⟩⟩
        rw [hw3 own fun i hi => ho i (by simp [tgNs, hi]), hw own fun i hi => ho i (by simp [tgNs, hi])]
termination_by E => (sizeOf E, 0)
theorem snd_i : ∀ (E : It) {X : Cx} {sc wsc : Scope} {tg e : Expr}, Good X N sc wsc k cl T C S → isI N S sc tg E e = true → PI X tg e (rdI X.K cl T C E)
  | .of x, X, sc, wsc, tg, e, g, h => by
    simp only [isI] at h
    have p := snd_e x g h
    refine PI.ex fun σ H RR q => ?_
    obtain ⟨ρ, s, L, em, rs, pp, L1, he, hR⟩ := q
    simp only [evI] at he
    cases h1 : evE T C x s L with
    | stuck => rw [h1] at he; cases he
    | ok v La =>
      rw [h1, R.bind_ok] at he
      cases v with
      | tup xs =>
        cases he
        refine ⟨_, pi_tup p, ρ, s, L, em, rs, _, _, h1, fun ρ1 H1 v' n1 em1 rv => ?_⟩
        obtain ⟨a, ys, rfl, sq, rvs⟩ := rv
        exact ⟨a, rfl, ⟨ys, sq⟩, hR ρ1 H1 _ n1 em1 (wk_tup em1 sq rvs)⟩
      | fl xs =>
        cases he
        refine ⟨_, pi_list p, ρ, s, L, em, rs, _, _, h1, fun ρ1 H1 v' n1 em1 rv => ?_⟩
        obtain ⟨a, ys, rfl, sq, rvs⟩ := rv
        exact ⟨a, rfl, ⟨ys, sq.sq⟩, hR ρ1 H1 _ n1 em1 (wk_fl em1 sq rvs)⟩
      | ref i =>
        simp only at he
        split at he
        · rename_i xs hL
          cases he
          refine ⟨_, pi_list p, ρ, s, L, em, rs, _, _, h1, fun ρ1 H1 v' n1 em1 rv => ?_⟩
          obtain ⟨a, rfl, ha⟩ := rv
          obtain ⟨ys, hH, rys⟩ := em1.obj _ _ a hL ha
          exact ⟨a, rfl, ⟨ys, SqL.of hH⟩, hR ρ1 H1 _ n1 em1 (wk_list ha)⟩
        · cases he
      | _ => cases he
  | .rng [], X, sc, wsc, tg, e, g, h => by simp [isI] at h
  | .rng (_ :: _ :: _ :: _), X, sc, wsc, tg, e, g, h => by simp [isI] at h
  | .rng [x], X, sc, wsc, tg, e, g, h => by
      cases e with
      | Call fn es ks p =>
        cases fn with
        | Name r p2 =>
          match es, ks, h with
          | [e1], [], h =>
            simp only [isI, Bool.and_eq_true, decide_eq_true_eq] at h
            obtain ⟨⟨hr, hg⟩, hx⟩ := h
            subst hr
            have pa : PA X [e1] (rdA X.K cl T C [x]) := pa_cons' (snd_e x g hx) pa_nil' (inv_star hx _ _)
            refine PI.ex fun σ H RR q => ⟨_, pi_range1 (gl_of g.hsc hg) (g.fc.bl _ (by decide)) pa (by rw [inv_star hx]; rfl), ?_⟩
            obtain ⟨ρ, s, L, em, rs, pp, L1, he, hR⟩ := q
            simp only [evI] at he
            cases h1 : evEs T C [x] s L with
            | stuck => rw [h1] at he; cases he
            | ok vs La =>
              rw [h1, R.bind_ok] at he
              refine ⟨ρ, s, L, em, rs, _, _, h1, fun ρ1 H1 v' n1 em1 rv => ?_⟩
              split at he
              · split at he
                · rename_i hb
                  cases he
                  obtain ⟨y, r, rfl, rfl, rfl⟩ := rv
                  refine ⟨_, rfl, hb.1, hb.2, hR ρ1 H1 _ n1 em1 wk_rng⟩
                · cases he
              · obtain ⟨_, _, rfl, _, _, _, rfl, _, _⟩ := rv
                simp only [evEs] at h1
                exfalso
                cases h2 : evE T C x s L with
                | stuck => rw [h2] at h1; cases h1
                | ok _ _ => rw [h2] at h1; cases h1
              · cases he
          | [], ks', h => cases ks' <;> simp [isI] at h
          | [_], _ :: _, h => simp [isI] at h
          | _ :: _ :: _, ks', h => cases ks' <;> simp [isI] at h
        | _ => simp [isI] at h
      | _ => simp [isI] at h
  | .rng [x, y], X, sc, wsc, tg, e, g, h => by
      cases e with
      | Call fn es ks p =>
        cases fn with
        | Name r p2 =>
          match es, ks, h with
          | [e1, e2], [], h =>
            simp only [isI, Bool.and_eq_true, decide_eq_true_eq] at h
            obtain ⟨⟨⟨hr, hg⟩, hx⟩, hy⟩ := h
            subst hr
            have pa : PA X [e1, e2] (rdA X.K cl T C [x, y]) := pa_cons' (snd_e x g hx) (pa_cons' (snd_e y g hy) pa_nil' (inv_star hy _ _)) (inv_star hx _ _)
            refine PI.ex fun σ H RR q => ⟨_, pi_range2 (gl_of g.hsc hg) (g.fc.bl _ (by decide)) pa (by rw [inv_star hx, inv_star hy]; rfl) (by rw [inv_star hy]; rfl), ?_⟩
            obtain ⟨ρ, s, L, em, rs, pp, L1, he, hR⟩ := q
            simp only [evI] at he
            cases h1 : evEs T C [x, y] s L with
            | stuck => rw [h1] at he; cases he
            | ok vs La =>
              rw [h1, R.bind_ok] at he
              refine ⟨ρ, s, L, em, rs, _, _, h1, fun ρ1 H1 v' n1 em1 rv => ?_⟩
              split at he
              · exfalso
                simp only [evEs] at h1
                cases h2 : evE T C x s L with
                | stuck => rw [h2] at h1; cases h1
                | ok v2 L2 =>
                  rw [h2, R.bind_ok] at h1
                  cases h3 : evE T C y s L2 with
                  | stuck => rw [h3] at h1; cases h1
                  | ok _ _ => rw [h3] at h1; cases h1
              · split at he
                · rename_i hb
                  cases he
                  obtain ⟨y, r, rfl, rfl, _, _, rfl, rfl, rfl⟩ := rv
                  refine ⟨_, _, rfl, hb, hR ρ1 H1 _ n1 em1 wk_rng⟩
                · cases he
              · cases he
          | [], ks', h => cases ks' <;> simp [isI] at h
          | [_], ks', h => cases ks' <;> simp [isI] at h
          | [_, _], _ :: _, h => simp [isI] at h
          | _ :: _ :: _ :: _, ks', h => cases ks' <;> simp [isI] at h
        | _ => simp [isI] at h
      | _ => simp [isI] at h
  | .enm x, X, sc, wsc, tg, e, g, h => by
    cases e with
    | Call fn es ks p =>
      cases fn with
      | Name r p2 =>
        match es, ks, h with
        | [e1], [], h =>
          simp only [isI, Bool.and_eq_true, decide_eq_true_eq] at h
          obtain ⟨⟨⟨hr, hg⟩, hx⟩, ht⟩ := h
          subst hr
          cases tg with
          | Tuple a1 a2 a3 =>
            have pa : PA X [e1] (rdA X.K cl T C [x]) := pa_cons' (snd_e x g hx) pa_nil' (inv_star hx _ _)
            refine PI.ex fun σ H RR q => ⟨_, pi_enum (gl_of g.hsc hg) (g.fc.bl _ (by decide)) pa (by rw [inv_star hx]; rfl), ?_⟩
            obtain ⟨ρ, s, L, em, rs, pp, L1, he, hR⟩ := q
            simp only [evI] at he
            cases h1 : evE T C x s L with
            | stuck => rw [h1] at he; cases he
            | ok v La =>
              rw [h1, R.bind_ok] at he
              refine ⟨ρ, s, L, em, rs, [v], La, by simp [evEs, h1], fun ρ1 H1 v' n1 em1 rv => ?_⟩
              obtain ⟨y, r, rfl, ry, rfl⟩ := rv
              split at he
              · cases he
                obtain ⟨a, ys, rfl, sq, rvs⟩ := ry
                exact ⟨a, ys, rfl, sq.sq, hR ρ1 H1 _ n1 em1 (wk_enmF em1 sq rvs)⟩
              · split at he
                · rename_i hL
                  cases he
                  obtain ⟨a, rfl, ha⟩ := ry
                  obtain ⟨ys, hH, rys⟩ := em1.obj _ _ a hL ha
                  exact ⟨a, ys, rfl, SqL.of hH, hR ρ1 H1 _ n1 em1 (wk_enm ha)⟩
                · cases he
              · cases he
          | _ => simp at ht
        | [], ks', h => cases ks' <;> simp [isI] at h
        | [_], _ :: _, h => simp [isI] at h
        | _ :: _ :: _, ks', h => cases ks' <;> simp [isI] at h
      | _ => simp [isI] at h
    | _ => simp [isI] at h
  | .zip a b, X, sc, wsc, tg, e, g, h => by simp [isI] at h
  | .rev a, X, sc, wsc, tg, e, g, h => by simp [isI] at h
termination_by E => (sizeOf E, 0)
end
end
end G
set_option Elab.async false
set_option linter.all false
set_option maxRecDepth 100000
set_option maxHeartbeats 4000000
/-! G8: statements. -/
namespace G
open PySem PySem.Spec PyProof.Rows L2

section
variable (N : List Str) (S : Sig)
def noComp : Expr → Bool
  | .ListComp .. => false | .SetComp .. => false | .DictComp .. => false | _ => true
/-- a store of a tuple of names from a tuple is not served -/
def noPar (tg ex : Expr) : Bool := match tg, ex with
  | .Tuple .., .Tuple .. => false | .List .., .Tuple .. => false | _, _ => true
def okVal : Expr → Bool
  | .SetComp .. => false | .DictComp .. => false | _ => true
mutual
def isP (sc : Scope) : Pt → Pattern → Bool
  | .val (.str x), .MatchValue (.Constant (.str y) _ _) _ => decide (Str.ofString x = y)
  | .val (.int x), .MatchValue (.Constant (.int y) _ _) _ => x == y
  | .any, .MatchAs none none _ => true
  | .nm i, .MatchAs none (some x) _ => decide (N[i]? = some x) && locB sc x
  | .tup ps, .MatchSequence qs _ => isPs sc ps qs && !(qs.all fun p => p.isWildcard || (p.isStar && p.names.isEmpty))
  | _, _ => false
def isPs (sc : Scope) : List Pt → List Pattern → Bool
  | [], [] => true
  | p :: ps, q :: qs => isP sc p q && isPs sc ps qs
  | _, _ => false
end
mutual
def isS (sc : Scope) : Sm → Stmt → Bool
  | .asg t e, .Assign [tg] ex _ => isG N S sc sc t tg && isE N S sc e ex && noPar tg ex && okVal ex
  | .aug i op e, .AugAssign (.Name x _) o ex _ => decide (N[i]? = some x) && locB sc x && isBop op o && isE N S sc e ex
  | .exp e, .Expr ex _ => isE N S sc e ex && noComp ex
  | .ite c a b, .If t u v _ => isE N S sc c t && isSs sc a u && isSs sc b v
  | .for t it b, .For tg iter body [] _ => isG N S sc sc t tg && isI N S sc tg it iter && isSs sc b body
  | .whl c b, .While t body [] _ => isE N S sc c t && isSs sc b body
  | .ret e, .Return (some ex) _ => isE N S sc e ex
  | .retN, .Return none _ => true
  | .brk, .Break _ => true
  | .cnt, .Continue _ => true
  | .pass, .Pass _ => true
  | .rse, .Raise .. => true
  | .mch e cs, .Match ex ms _ => isE N S sc e ex && isCs sc cs ms
  | _, _ => false
def isSs (sc : Scope) : List Sm → List Stmt → Bool
  | [], [] => true
  | a :: r, b :: t => isS sc a b && isSs sc r t
  | _, _ => false
def isCs (sc : Scope) : List Cs → List MatchCase → Bool
  | [], [] => true
  | .mk p b :: r, ⟨q, none, body⟩ :: t => isP N sc p q && isSs sc b body && isCs sc r t
  | _, _ => false
end
end

section
variable {N : List Str} {S : Sig} {sc : Scope} {k : Nat} {cl : CA} {T : Tbl} {C : Orc}
/-- what a statement's result promises -/
def SRd (K : PySem.W.Frag) (cl : CA) (D : Ends) (ρ : List Addr) (H : Hp) : SR → Prop
  | .nx s L => ∀ ρ' H' σ', Nx ρ ρ' H H' → Em K cl ρ' L H' → RS K cl ρ' H' s σ' → D.nx σ' H'
  | .rt v L => ∀ ρ' H' v', Nx ρ ρ' H H' → Em K cl ρ' L H' → RV K cl ρ' H' v v' → D.rt v' H'
  | .bk s L => ∀ ρ' H' σ', Nx ρ ρ' H H' → Em K cl ρ' L H' → RS K cl ρ' H' s σ' → D.bk σ' H'
  | .ct s L => ∀ ρ' H' σ', Nx ρ ρ' H H' → Em K cl ρ' L H' → RS K cl ρ' H' s σ' → D.ct σ' H'
  | .stuck => False
theorem SRd.later {K : PySem.W.Frag} {D : Ends} {ρ ρ1 : List Addr} {H H1 : Hp} {r : SR} (n : Nx ρ ρ1 H H1) (h : SRd K cl D ρ H r) : SRd K cl D ρ1 H1 r := by
  cases r with
  | stuck => exact h
  | _ => exact fun ρ' H' σ' n1 e r => h ρ' H' σ' (n.trans n1) e r
theorem SRd.bind {K : PySem.W.Frag} {D : Ends} {ρ : List Addr} {H : Hp} {r : SR} {f : Sl → LH → SR} (h : SRd K cl D ρ H (r.bind f)) :
    SRd K cl { D with nx := fun σ' H' => ∃ ρ' s L, Nx ρ ρ' H H' ∧ Em K cl ρ' L H' ∧ RS K cl ρ' H' s σ' ∧ SRd K cl D ρ' H' (f s L) } ρ H r := by
  cases r with
  | nx s L => exact fun ρ' H' σ' n e r => ⟨ρ', s, L, n, e, r, SRd.later n h⟩
  | rt v L => exact h
  | bk s L => exact h
  | ct s L => exact h
  | stuck => exact h
theorem SRd.toS {α β : Type} {K : PySem.W.Frag} {D : Ends} {ρ : List Addr} {H : Hp} {r : R α} {f : α → LH → SR} (RB : List Addr → Hp → α → β → Prop) (h : SRd K cl D ρ H (r.toS f)) :
    Rd K cl ρ H r RB fun x' H1 => ∃ ρ1 x L1, Nx ρ ρ1 H H1 ∧ Em K cl ρ1 L1 H1 ∧ RB ρ1 H1 x x' ∧ SRd K cl D ρ1 H1 (f x L1) := by
  cases r with
  | stuck => exact h.elim
  | ok x L1 => exact ⟨x, L1, rfl, fun ρ1 H1 x' n1 e1 rx => ⟨ρ1, x, L1, n1, e1, rx, SRd.later n1 h⟩⟩
def rdS (K : PySem.W.Frag) (cl : CA) (T : Tbl) (C : Orc) (a : Sm) : TS := fun D σ H => ∃ ρ s L, Em K cl ρ L H ∧ RS K cl ρ H s σ ∧ SRd K cl D ρ H (evS T C a s L)
def rdSs (K : PySem.W.Frag) (cl : CA) (T : Tbl) (C : Orc) (a : List Sm) : TS := fun D σ H => ∃ ρ s L, Em K cl ρ L H ∧ RS K cl ρ H s σ ∧ SRd K cl D ρ H (evSs T C a s L)

theorem swp_of {e : Expr} (h : noComp e = true) (t : Option Expr) (l : Nat) (env : Env) : swapsWith e t l env = pure false := by
  cases e with
  | ListComp => cases h
  | SetComp => cases h
  | DictComp => cases h
  | _ => rfl
theorem par_of {tg e : Expr} (h : noPar tg e = true) (env : Env) : swappedStores [tg] e env = pure none := by
  cases tg with
  | Tuple => cases e with
    | Tuple => cases h
    | _ => rfl
  | List => cases e with
    | Tuple => cases h
    | _ => rfl
  | _ => rfl
theorem swp_lc {el : Expr} {gs : List Comprehension} {scope : Scope} {p : Pos} {tg : Expr} {l : Nat} {env : Env} (h : ∀ t q, tg ≠ .Name t q) : swapsWith (.ListComp el gs scope p) (some tg) l env = pure false := by
  cases tg with
  | Name t q => exact absurd rfl (h t q)
  | _ => rfl
theorem swp_sole {tg e : Expr} {l : Nat} {env : Env} : swapsWithSole [tg] e l env = swapsWith e (some tg) l env := rfl
theorem swp_nm {el : Expr} {gs : List Comprehension} {scope : Scope} {p tp : Pos} {t : Str} {l : Nat} {env : Env} : swapsWith (.ListComp el gs scope p) (some (.Name t tp)) l env =
    pure (env.blockKind == .function && env.kindOf t == some .local && tp.line == p.line && !(scope.names.any fun (n, k) => n == t && (k == .local || k == .cell))) := rfl
theorem asg_read {K : PySem.W.Frag} {t : Tg} {e : Ex} {D : Ends} {σ : L2.St} {H : Hp} (h : rdS K cl T C (.asg t e) D σ H) : tAsg (rdE K cl T C e) (rdG K cl T C t) D σ H := by
  obtain ⟨ρ, s, L, em, rs, rd⟩ := h
  simp only [evS] at rd
  have rd := rd.toS (RG K cl (tgN t) σ)
  refine ⟨ρ, s, L, em, rs, (rd.bind (RV K cl)).imp fun x' H1 ⟨ρ1, x, L1, n1, em1, rx, rd⟩ => ⟨ρ1, s, L1, x, em1, rs.nx em n1, rx, ?_⟩⟩
  refine rd.imp fun σ' H2 ⟨ρ2, s2, L2, n2, em2, ⟨rs2, _⟩, rd⟩ => ?_
  exact rd ρ2 H2 σ' Nx.refl em2 rs2
theorem nm_read {K : PySem.W.Frag} {i : Nat} {v : V} {σ : L2.St} {H : Hp} {Q : L2.St → Hp → Prop} (h : rdG K cl T C (.nm i) v σ H Q) : gName i v σ H Q := by
  obtain ⟨ρ, s, L, x, em, rs, rv, rd⟩ := h
  simp only [evG] at rd
  split at rd
  · exact rd.ok em ⟨rs.set rv, fun own h => wipe_set (h i (by simp [tgN]))⟩
  · exact rd.stuck.elim
theorem aug_ok {K : PySem.W.Frag} {X : Cx} (hK : X.K = K) {ρ : List Addr} {L : LH} {H : Hp} {op : BOp} {o : Operator} (ho : isBop op o = true) {x y : LV} {x' y' : V} {Q : VK} {Z : SR → Prop} (em : Em K cl ρ L H) (rx : RV K cl ρ H x x') (ry : RV K cl ρ H y y')
    (h : Rd K cl ρ H (augV op x y L) (RV K cl) Q) : ∃ r, OpR X (inplaceOp o) r ∧ r x' y' H Q := by
  subst hK
  unfold augV at h
  split at h
  · cases o <;> first | (exact absurd ho (by decide)) | skip
    cases rx; cases ry
    exact ⟨_, iop_add, _, _, rfl, rfl, h.ok em rfl⟩
  · cases o <;> first | (exact absurd ho (by decide)) | skip
    cases rx; cases ry
    exact ⟨_, iop_sub, _, _, rfl, rfl, h.ok em rfl⟩
  · cases o <;> first | (exact absurd ho (by decide)) | skip
    rename_i a b
    cases rx; cases ry
    split at h
    · rename_i hl
      refine ⟨_, iop_add_str, _, _, rfl, rfl, ?_, h.ok em ?_⟩
      · rw [ofS_len, ofS_len]; exact Nat.le_trans hl big_line
      · show _ = _
        rw [ofS_app]
    · exact h.stuck.elim
  · exact h.stuck.elim

/-! ### patterns -/
/-- bindings: slots and values -/
def BRel (X : Cx) : List (Nat × V) → List (Str × Value) → Prop
  | [], b => b = []
  | (i, v) :: r, b => ∃ x u t, b = (x, u) :: t ∧ X.N[i]? = some x ∧ Loc X.env.scope x ∧ (X.fn x = true ∨ X.env.scope.names.lookup x = some .local) ∧ RelV v u ∧ BRel X r t
def MRel (X : Cx) (cl : CA) (ρ : List Addr) (H : Hp) : MR → Option (List (Str × Value)) → Prop
  | .hit bs, some b => ∃ bs', RVs X.K cl ρ H (bs.map (·.2)) (bs'.map (·.2)) ∧ bs'.map (·.1) = bs.map (·.1) ∧ BRel X bs' b
  | .miss, none => True
  | _, _ => False
theorem BRel.app {X : Cx} : ∀ {a b : List (Nat × V)} {a' b' : List (Str × Value)}, BRel X a a' → BRel X b b' → BRel X (a ++ b) (a' ++ b')
  | [], _, _, _, h, h' => by rw [show _ = [] from h]; exact h'
  | (i, v) :: r, _, _, _, h, h' => by
    obtain ⟨x, u, t, rfl, h1, h2, h3, h4, h5⟩ := h
    exact ⟨x, u, _, rfl, h1, h2, h3, h4, BRel.app h5 h'⟩
theorem isP_star {p : Pt} {a : Option Str} {b : Pos} : isP N sc p (.MatchStar a b) = false := by
  cases p with
  | val v => cases v <;> rfl
  | _ => rfl
theorem star_of {ps : List Pt} : ∀ {qs : List Pattern}, isPs N sc ps qs = true → qs.length = ps.length ∧ qs.findIdx? (·.isStar) = none := by
  induction ps with
  | nil =>
    intro qs h
    cases qs with
    | nil => exact ⟨rfl, rfl⟩
    | cons _ _ => simp [isPs] at h
  | cons p ps ih =>
    intro qs h
    cases qs with
    | nil => simp [isPs] at h
    | cons q qs =>
      simp only [isPs, Bool.and_eq_true] at h
      obtain ⟨h1, h2⟩ := ih h.2
      have hq : q.isStar = false := by
        cases q with
        | MatchStar => rw [isP_star] at h; cases h.1
        | _ => rfl
      refine ⟨by rw [List.length_cons, List.length_cons, h1], ?_⟩
      rw [List.findIdx?_cons, hq, h2]
      rfl
theorem val_match {X : Cx} {ρ : List Addr} {L : LH} {H : Hp} {σ : L2.St} {pins : List (Addr × Obj)} {s : Shared} (g : Good X N sc sc k cl T C S) (I : Inv X pins σ H s) (em : Em X.K cl ρ L H) {v w : LV} {v' w' : V} {u : Value} {e : Expr} {pos : Pos} (rv : RV X.K cl ρ H v v') (rw' : RV X.K cl ρ H w w') (ru : RelV v' u)
    (hc : PE X e (fun σ H Q => Q w' H)) (hm : mtP L (.val w) v ≠ .stuck) {Q : Option (List (Str × Value)) → Shared → Prop}
    (hQ : ∀ r s', Inv X pins σ H s' → MRel X cl ρ H (mtP L (.val w) v) r → Q r s') : wpAny (model X.prog X.w) X.A (matchPattern (.MatchValue e pos) X.env u) Q X.xe s := by
  refine wpAny_matchPattern_Value ?_
  refine thn (hc.run pins s σ H (fun x H1 => x = w' ∧ H1 = H) I ⟨rfl, rfl⟩) fun y s1 ⟨z, H1, I1, rz, e1, e2⟩ => ?_
  subst e1; subst e2
  simp only [mtP] at hm hQ
  cases hb : cmpV .eq v w L with
  | none => rw [hb] at hm; exact absurd rfl hm
  | some b =>
    obtain ⟨rr, hr, q⟩ := cmp_ok (o := .Eq) rfl g.room.units em rfl rv rw' hb
    refine thn (hr pins s1 σ _ _ _ _ _ (fun v H2 => v = .bl b ∧ H2 = H1) I1 ru rz (q _ ⟨rfl, rfl⟩)) fun c s2 ⟨vv, H2, I2, rb, e1, e2⟩ => ?_
    subst e1; subst e2
    obtain rfl : c = Value.bool b := rb
    refine wpAny_truthy_bool ?_
    cases b with
    | true => exact hQ _ _ I2 (by rw [hb]; exact ⟨[], rfl, rfl, rfl⟩)
    | false => exact hQ _ _ I2 (by rw [hb]; trivial)
mutual
theorem mt_p : ∀ (p : Pt) {X : Cx} {q : Pattern} {ρ : List Addr} {L : LH} {H : Hp} {σ : L2.St} {pins : List (Addr × Obj)} {s : Shared} {v : LV} {v' : V} {u : Value} {Q : Option (List (Str × Value)) → Shared → Prop}, Good X N sc sc k cl T C S → isP N sc p q = true →
    Inv X pins σ H s → Em X.K cl ρ L H → RV X.K cl ρ H v v' → RelV v' u → mtP L p v ≠ .stuck → (∀ r s', Inv X pins σ H s' → MRel X cl ρ H (mtP L p v) r → Q r s') → wpAny (model X.prog X.w) X.A (matchPattern q X.env u) Q X.xe s
  | .val w, X, q, ρ, L, H, σ, pins, s, v, v', u, Q, g, h, I, em, rv, ru, hm, hQ => by
    cases q with
    | MatchValue e pos =>
      cases e with
      | Constant c j p =>
        cases w with
        | str x =>
          cases c with
          | str y =>
            simp only [isP, decide_eq_true_eq] at h
            subst h
            exact val_match g I em (w := .str x) (w' := .str (Str.ofString x)) rv rfl ru ⟨fun pins s σ H Q I h => pe_str.run pins s σ H Q I h⟩ hm hQ
          | _ => simp [isP] at h
        | int x =>
          cases c with
          | int y =>
            simp only [isP, beq_iff_eq] at h
            subst h
            exact val_match g I em (w := .int x) (w' := .int x) rv rfl ru ⟨fun pins s σ H Q I h => pe_int.run pins s σ H Q I h⟩ hm hQ
          | _ => simp [isP] at h
        | _ => simp [isP] at h
      | _ => cases w <;> simp [isP] at h
    | _ => cases w <;> simp [isP] at h
  | .any, X, q, ρ, L, H, σ, pins, s, v, v', u, Q, g, h, I, em, rv, ru, hm, hQ => by
    match q, h with
    | .MatchAs none none pos, h => exact wpAny_matchPattern_Capture (hQ _ _ I ⟨[], rfl, rfl, rfl⟩)
    | .MatchAs none (some _) pos, h => simp [isP] at h
    | .MatchAs (some _) _ pos, h => simp [isP] at h
    | .MatchValue _ _, h => simp [isP] at h
    | .MatchSingleton _ _, h => simp [isP] at h
    | .MatchSequence _ _, h => simp [isP] at h
    | .MatchMapping _ _ _ _, h => simp [isP] at h
    | .MatchClass _ _ _ _ _, h => simp [isP] at h
    | .MatchStar _ _, h => simp [isP] at h
    | .MatchOr _ _, h => simp [isP] at h
  | .nm i, X, q, ρ, L, H, σ, pins, s, v, v', u, Q, g, h, I, em, rv, ru, hm, hQ => by
    match q, h with
    | .MatchAs none (some x) pos, h =>
      simp only [isP, Bool.and_eq_true, decide_eq_true_eq] at h
      obtain ⟨h1, h2⟩ := g.fn x h.2
      exact wpAny_matchPattern_Capture (hQ _ _ I ⟨[(i, v')], RVs.one rv, rfl, x, u, [], rfl, by rw [g.N]; exact h.1, h1, h2, ru, rfl⟩)
    | .MatchAs none none pos, h => simp [isP] at h
    | .MatchAs (some _) _ pos, h => simp [isP] at h
    | .MatchValue _ _, h => simp [isP] at h
    | .MatchSingleton _ _, h => simp [isP] at h
    | .MatchSequence _ _, h => simp [isP] at h
    | .MatchMapping _ _ _ _, h => simp [isP] at h
    | .MatchClass _ _ _ _ _, h => simp [isP] at h
    | .MatchStar _ _, h => simp [isP] at h
    | .MatchOr _ _, h => simp [isP] at h
  | .tup ps, X, q, ρ, L, H, σ, pins, s, v, v', u, Q, g, h, I, em, rv, ru, hm, hQ => by
    cases q with
    | MatchSequence qs pos =>
      simp only [isP, Bool.and_eq_true, Bool.not_eq_true'] at h
      obtain ⟨h1, h2⟩ := h
      obtain ⟨hl, hst⟩ := star_of h1
      cases v with
      | tup xs =>
        obtain ⟨a, ys, rfl, sq, rvs⟩ := rv
        cases ru
        obtain ⟨its, rt, ht, hz⟩ := I.tuple sq
        have hlen := rt.length
        have hn := line63
        refine wpAny_matchPattern_Sequence ?_ hst h2
        refine wpAny_collectionFlag (T := "tuple") ht.typeIs flag_seq_tuple ?_
        rw [if_pos rfl]
        refine pyLen_tuple ht (by simp; omega) ?_
        simp only [mtP] at hm hQ
        have I1 : Inv X pins σ H { s with toks := s.toks + 1 + 1 } := I.tok _
        by_cases e : xs.length = ps.length
        · rw [if_pos e] at hm hQ
          rw [if_neg (by simp; rw [← hlen, rvs.len, e, hl])]
          have eq : qs.length = its.toArray.size := by simp; rw [← hlen, rvs.len, e, hl]
          rw [eq]
          refine unpackItems_tuple (I.ok.hd g.calm) (show IsTup _ a its.toArray from ht) fun h' hx => ?_
          have I2 : Inv X pins σ H { s with heap := h', toks := s.toks + 1 + 1 } := I1.kept (t' := s.toks + 1 + 1) fun b o eb => hx b o (Nat.ne_of_lt (Heap.lt_size eb)) eb
          exact mt_ps ps g h1 I2 em rvs (by simpa using rt) hm hQ
        · rw [if_neg e] at hQ
          rw [if_pos (by simp; rw [← hlen, rvs.len, hl]; exact fun z => e (by omega))]
          exact hQ _ _ I1 trivial
      | _ => exact absurd rfl hm
    | _ => simp [isP] at h
  | .or _, X, q, ρ, L, H, σ, pins, s, v, v', u, Q, g, h, I, em, rv, ru, hm, hQ => by simp [isP] at h
termination_by p => sizeOf p
theorem mt_ps : ∀ (p : List Pt) {X : Cx} {q : List Pattern} {ρ : List Addr} {L : LH} {H : Hp} {σ : L2.St} {pins : List (Addr × Obj)} {s : Shared} {v : List LV} {v' : List V} {u : List Value} {Q : Option (List (Str × Value)) → Shared → Prop}, Good X N sc sc k cl T C S → isPs N sc p q = true →
    Inv X pins σ H s → Em X.K cl ρ L H → RVs X.K cl ρ H v v' → Vals v' u → mtPs L p v ≠ .stuck → (∀ r s', Inv X pins σ H s' → MRel X cl ρ H (mtPs L p v) r → Q r s') → wpAny (model X.prog X.w) X.A (matchEach q X.env u) Q X.xe s
  | [], X, q, ρ, L, H, σ, pins, s, v, v', u, Q, g, h, I, em, rv, ru, hm, hQ => by
    cases q with
    | cons _ _ => simp [isPs] at h
    | nil =>
      cases v with
      | cons _ _ => simp [mtPs] at hm
      | nil =>
        simp only [mtPs] at hQ
        exact wpAny_matchEach_nil (hQ _ _ I ⟨[], rfl, rfl, rfl⟩)
  | p :: ps, X, q, ρ, L, H, σ, pins, s, v, v', u, Q, g, h, I, em, rv, ru, hm, hQ => by
    cases q with
    | nil => simp [isPs] at h
    | cons q qs =>
      simp only [isPs, Bool.and_eq_true] at h
      cases v with
      | nil => simp [mtPs] at hm
      | cons x xs =>
        obtain ⟨y, ys, rfl, rx, rxs⟩ := rv
        cases ru with
        | cons r rr =>
          have hq : q.isStar = false := by
            cases q with
            | MatchStar => rw [isP_star] at h; cases h.1
            | _ => rfl
          simp only [mtPs] at hm hQ
          have m1 : mtP L p x ≠ .stuck := fun z => by rw [z] at hm; exact hm rfl
          refine wpAny_matchEach_cons (mt_p p g h.1 I em rx r m1 fun r1 s1 I1 q1 => ?_) hq
          cases h1 : mtP L p x with
          | stuck => exact absurd h1 m1
          | miss =>
            rw [h1] at q1 hQ
            cases r1 with
            | none => exact hQ _ _ I1 trivial
            | some _ => exact q1.elim
          | hit bs =>
            rw [h1] at q1 hQ hm
            cases r1 with
            | none => exact q1.elim
            | some b =>
              obtain ⟨bs', c1, c2, c3⟩ := q1
              simp only [MR.bind_hit] at hQ hm
              have m2 : mtPs L ps xs ≠ .stuck := fun z => by rw [z] at hm; exact hm rfl
              refine mt_ps ps g h.2 I1 em rxs rr m2 fun r2 s2 I2 q2 => ?_
              cases h2 : mtPs L ps xs with
              | stuck => exact absurd h2 m2
              | miss =>
                rw [h2] at q2 hQ
                cases r2 with
                | none => exact hQ _ _ I2 trivial
                | some _ => exact q2.elim
              | hit bs2 =>
                rw [h2] at q2 hQ
                cases r2 with
                | none => exact q2.elim
                | some b2 =>
                  obtain ⟨bs2', d1, d2, d3⟩ := q2
                  refine hQ _ _ I2 ⟨bs' ++ bs2', ?_, ?_, c3.app d3⟩
                  · rw [List.map_append, List.map_append]; exact c1.app d1
                  · rw [List.map_append, List.map_append, c2, d2]
termination_by p => sizeOf p
end
/-- the bindings stored -/
theorem bind_ok {X : Cx} {K : PySem.W.Frag} {ρ : List Addr} {H : Hp} (hN : X.N.Nodup) : ∀ {bs : List (Nat × LV)} {bs' : List (Nat × V)} {b : List (Str × Value)} {σ : L2.St} {sl : Sl} {pins : List (Addr × Obj)} {s : Shared} {Q : Unit → Shared → Prop}, Inv X pins σ H s → RS K cl ρ H sl σ → RVs K cl ρ H (bs.map (·.2)) (bs'.map (·.2)) → bs'.map (·.1) = bs.map (·.1) → BRel X bs' b →
    (∀ σ' s', Inv X pins σ' H s' → RS K cl ρ H (setAll sl bs) σ' → Q () s') → wpAny (model X.prog X.w) X.A (assignInOrder (b.map fun (n, _) => bindName X.env n) (b.map (·.2))) Q X.xe s
  | [], bs', b, σ, sl, pins, s, Q, I, rs, rv, hn, br, hQ => by
    have e : bs' = [] := by simpa using hn
    subst e
    rw [show b = [] from br]
    exact assignInOrder_nil (hQ σ s I rs)
  | (i, x) :: bs, bs', b, σ, sl, pins, s, Q, I, rs, rv, hn, br, hQ => by
    cases bs' with
    | nil => simp at hn
    | cons p bs' =>
      obtain ⟨j, v⟩ := p
      obtain ⟨y, u, t, rfl, h1, h2, h3, h4, h5⟩ := br
      simp only [List.map_cons, List.cons.injEq] at hn
      obtain ⟨rfl, hn⟩ := hn
      obtain ⟨_, _, e, rx, rxs⟩ := rv
      simp only [List.map_cons, List.cons.injEq] at e
      obtain ⟨rfl, rfl⟩ := e
      refine assignInOrder_cons (wpAny_bindName (store_ok I hN h1 h2 h4 (fun s1 I1 => ?_) h3))
      exact bind_ok hN I1 (rs.set rx) rxs hn h5 hQ

/-- a while loop's reading -/
theorem whl_read {K : PySem.W.Frag} {c : Ex} {b : List Sm} {D : Ends} {σ : L2.St} {H : Hp} (h : rdS K cl T C (.whl c b) D σ H) : tWhile (rdT K cl T C c) (rdSs K cl T C b) D σ H := by
  obtain ⟨ρ, s, L, em, rs, rd⟩ := h
  simp only [evS] at rd
  refine ⟨fun m σ' H' => ∃ ρ' s' L', Nx ρ ρ' H H' ∧ Em K cl ρ' L' H' ∧ RS K cl ρ' H' s' σ' ∧ SRd K cl D ρ' H' (whlL (fun s L => evE T C c s L) (fun s L => evSs T C b s L) m s' L'), ⟨100000, ρ, s, L, Nx.refl, em, rs, rd⟩, ?_⟩
  rintro m σ1 H1 ⟨ρ1, s1, L1, n1, em1, rs1, rd1⟩
  cases m with
  | zero => exact rd1.elim
  | succ m =>
    simp only [whlL] at rd1
    cases hc : evE T C c s1 L1 with
    | stuck => rw [hc] at rd1; exact rd1.elim
    | ok v L2 =>
      rw [hc] at rd1
      cases v with
      | bl k =>
        refine ⟨ρ1, s1, L1, em1, rs1, k, L2, by rw [hc]; rfl, fun ρ2 H2 k' n2 em2 ek => ?_⟩
        cases ek
        have rs2 := rs1.nx em1 n2
        cases k with
        | false =>
          rw [if_neg Bool.false_ne_true]
          exact rd1 ρ2 H2 σ1 n2 em2 rs2
        | true =>
          rw [if_pos rfl]
          simp only at rd1
          refine ⟨fun σ' H' => ∃ ρ' s' L', Nx ρ ρ' H H' ∧ Em K cl ρ' L' H' ∧ RS K cl ρ' H' s' σ' ∧ SRd K cl D ρ' H' (whlL (fun s L => evE T C c s L) (fun s L => evSs T C b s L) m s' L'), fun σ' H' w => ⟨m, Nat.lt_succ_self _, w⟩, ρ2, s1, L2, em2, rs2, ?_⟩
          cases hb : evSs T C b s1 L2 with
          | stuck => rw [hb] at rd1; exact rd1.elim
          | nx s' L' =>
            rw [hb] at rd1
            exact fun ρ' H' σ' n e r => ⟨ρ', s', L', (n1.trans n2).trans n, e, r, SRd.later (n2.trans n) rd1⟩
          | ct s' L' =>
            rw [hb] at rd1
            exact fun ρ' H' σ' n e r => ⟨ρ', s', L', (n1.trans n2).trans n, e, r, SRd.later (n2.trans n) rd1⟩
          | bk s' L' =>
            rw [hb] at rd1
            exact fun ρ' H' σ' n e r => rd1 ρ' H' σ' (n2.trans n) e r
          | rt v L' =>
            rw [hb] at rd1
            exact fun ρ' H' v' n e r => rd1 ρ' H' v' (n2.trans n) e r
      | _ => exact rd1.elim
/-- a for loop's reading -/
theorem for_read {K : PySem.W.Frag} {t : Tg} {it : It} {b : List Sm} {D : Ends} {σ : L2.St} {H : Hp} (h : rdS K cl T C (.for t it b) D σ H) : tFor (rdI K cl T C it) (rdG K cl T C t) (rdSs K cl T C b) D σ H := by
  obtain ⟨ρ, s, L, em, rs, rd⟩ := h
  simp only [evS] at rd
  cases h1 : evI T C it s L with
  | stuck => rw [h1] at rd; exact rd.elim
  | ok p L1 =>
  rw [h1, R.toS_ok] at rd
  obtain ⟨xs, c⟩ := p
  simp only at rd
  refine ⟨ρ, s, L, em, rs, (xs, c), L1, h1, fun ρ1 H1 J n1 em1 wk => ?_⟩
  generalize hf : (fun x s L => (evG T C t x s L).toS fun s' L' => evSs T C b s' L') = f at rd
  refine ⟨fun i m σ' H' => m = xs.length - i ∧ i ≤ xs.length ∧ ∃ ρ' s' L', Nx ρ1 ρ' H1 H' ∧ Em K cl ρ' L' H' ∧ RS K cl ρ' H' s' σ' ∧ SRd K cl D ρ' H' (forL f c (xs.drop i) s' L'),
    ⟨xs.length, by omega, Nat.zero_le _, ρ1, s, L1, Nx.refl, em1, rs.nx em n1, SRd.later n1 rd⟩, ?_⟩
  rintro i m σ2 H2 ⟨hm, hi, ρ2, s2, L2, n2, em2, rs2, rd2⟩
  by_cases hlt : i < xs.length
  · refine .inr ?_
    rw [List.drop_eq_getElem_cons hlt, forL] at rd2
    have hx : xs[i]? = some xs[i] := List.getElem?_eq_getElem hlt
    by_cases hk : chkOk c L2 = true
    · rw [if_pos hk] at rd2
      obtain ⟨go, yld⟩ := wk.go i _ ρ2 L2 H2 n2 em2 hk hx
      refine ⟨go, fun σ' H' => ∃ ρ' s' L', Nx ρ1 ρ' H1 H' ∧ Em K cl ρ' L' H' ∧ RS K cl ρ' H' s' σ' ∧ SRd K cl D ρ' H' (forL f c (xs.drop (i + 1)) s' L'), fun σ' H' w => ⟨xs.length - (i + 1), by omega, rfl, hlt, w⟩, ?_⟩
      intro x' H3 hy
      obtain ⟨em3, n3, rx⟩ := yld x' H3 hy
      have rs3 : RS K cl ρ2 H3 s2 σ2 := rs2.nx em2 n3
      have rd3 : SRd K cl { D with nx := (fun σ' H' => ∃ ρ' s' L', Nx ρ1 ρ' H1 H' ∧ Em K cl ρ' L' H' ∧ RS K cl ρ' H' s' σ' ∧ SRd K cl D ρ' H' (forL f c (xs.drop (i + 1)) s' L')), ct := (fun σ' H' => ∃ ρ' s' L', Nx ρ1 ρ' H1 H' ∧ Em K cl ρ' L' H' ∧ RS K cl ρ' H' s' σ' ∧ SRd K cl D ρ' H' (forL f c (xs.drop (i + 1)) s' L')), bk := D.nx } ρ2 H3 (f xs[i] s2 L2) := by
        cases hb : f xs[i] s2 L2 with
        | stuck => rw [hb] at rd2; exact rd2.elim
        | nx s' L' =>
          rw [hb] at rd2
          exact fun ρ' H' σ' n e r => ⟨ρ', s', L', (n2.trans n3).trans n, e, r, SRd.later (n3.trans n) rd2⟩
        | ct s' L' =>
          rw [hb] at rd2
          exact fun ρ' H' σ' n e r => ⟨ρ', s', L', (n2.trans n3).trans n, e, r, SRd.later (n3.trans n) rd2⟩
        | bk s' L' =>
          rw [hb] at rd2
          exact fun ρ' H' σ' n e r => rd2 ρ' H' σ' (n3.trans n) e r
        | rt v L' =>
          rw [hb] at rd2
          exact fun ρ' H' v' n e r => rd2 ρ' H' v' (n3.trans n) e r
      subst hf
      have rd3 := rd3.toS (RG K cl (tgN t) σ2)
      exact ⟨ρ2, s2, L2, _, em3, rs3, rx, rd3.imp fun σ' H4 ⟨ρ4, s4, L4, n4, em4, ⟨rs4, _⟩, rd4⟩ => ⟨ρ4, s4, L4, em4, rs4, rd4⟩⟩
    · rw [if_neg hk] at rd2; exact rd2.elim
  · have e : i = xs.length := by omega
    subst e
    rw [List.drop_length, forL] at rd2
    split at rd2
    · rename_i hk
      exact .inl ⟨wk.stop ρ2 L2 H2 n2 em2 hk, rd2 ρ2 H2 σ2 Nx.refl em2 rs2⟩
    · exact rd2.elim

theorem evS_ite {c : Ex} {a b : List Sm} {s : Sl} {L : LH} : evS T C (.ite c a b) s L = ((evE T C c s L).bind asB).toS fun k L1 => if k = true then evSs T C a s L1 else evSs T C b s L1 := by
  simp only [evS]
  cases evE T C c s L with
  | stuck => rfl
  | ok v L1 => cases v with
    | bl b => cases b <;> rfl
    | _ => rfl
theorem inv_asg {t : Tg} {e : Ex} {st : Stmt} (h : isS N S sc (.asg t e) st = true) : ∃ tg ex p, st = .Assign [tg] ex p ∧ isG N S sc sc t tg = true ∧ isE N S sc e ex = true ∧ noPar tg ex = true ∧ okVal ex = true := by
  cases st with
  | Assign ts ex p =>
    match ts, h with
    | [], h => simp [isS] at h
    | [tg], h =>
      simp only [isS, Bool.and_eq_true] at h
      exact ⟨tg, ex, p, rfl, h.1.1.1, h.1.1.2, h.1.2, h.2⟩
    | _ :: _ :: _, h => simp [isS] at h
  | _ => simp [isS] at h

theorem asg_lc {X : Cx} (g : Good X N sc sc k cl T C S) {i : Nat} {y : Str} {py cp p : Pos} {el : Expr} {gs : List Comprehension} {scope : Scope} (hNi : X.N[i]? = some y) (hyl : X.env.scope.names.lookup y = some .local)
    (hb : (X.env.blockKind == .function && X.env.kindOf y == some .local && py.line == cp.line && !(scope.names.any fun (n, k) => n == y && (k == .local || k == .cell))) = true) : ∀ (e : Ex), isE N S sc e (.ListComp el gs scope cp) = true →
    PS X (.Assign [.Name y py] (.ListComp el gs scope cp) p) (tAsg (rdE X.K cl T C e) (rdG X.K cl T C (.nm i)))
  | .frz a, he => ⟨fun pins s σ H D I q => (asg_lc g hNi hyl hb a (inv_frz he)).run pins s σ H D I (rdE_frz q)⟩
  | .cpr elt tg' src cond own, he => by
    obtain ⟨el', t', i', ifs, scope', p', e', hi, hg', hE, hC, hB, hO⟩ := inv_cpr he
    injection e' with e1 e2 e3 e4
    subst e1; subst e2; subst e3; subst e4
    have pi := snd_i src g hi
    have pg' : ∀ (s : Shared) (H : Hp) (c : Addr) (cs : List (Str × Addr)) (fp : List Addr), PG (X.blk s H scope (compEnvC scope cs c X.env) fp) t' (rdG X.K cl T C tg') := fun s H c cs fp => snd_g tg' (g.blk scope s H c cs fp) hg'
    have pt' : ∀ (s : Shared) (H : Hp) (c : Addr) (cs : List (Str × Addr)) (fp : List Addr), PTs (X.blk s H scope (compEnvC scope cs c X.env) fp) ifs (rdC X.K cl T C cond) := fun s H c cs fp => snd_c cond (g.blk scope s H c cs fp) hC
    have pe' : ∀ (s : Shared) (H : Hp) (c : Addr) (cs : List (Str × Addr)) (fp : List Addr), PE (X.blk s H scope (compEnvC scope cs c X.env) fp) el (rdE X.K cl T C elt) := fun s H c cs fp => snd_e elt (g.blk scope s H c cs fp) hE
    refine ⟨fun pins s σ H D I q => ?_⟩
    refine (ps_setLc (i := i) g.calm g.nd hNi hyl (by rw [swp_nm, hb]) pi (own := own.map fun i => (N.getD i Str.empty, i)) (blkOk_by (by rw [g.N, g.hsc]; exact hB)) pg' pt' pe' (fold_of hi X.env)).run pins s σ H D I ?_
    rw [own_snd]
    obtain ⟨ρ, s, L, em, rs, rd⟩ := q
    exact lc_read hO ⟨ρ, s, L, em, rs, rd.imp fun x' H1 q => nm_read q⟩
  | .cpr2 elt tg' src cond tg1 src1 cond1 own own1, he => by
    obtain ⟨el', t', i', ifs, t1, i1, ifs1, scope', p', e', hi, hg', hC, hi1, hg1, hC1, hE, hB, hO, hO1, hOO⟩ := inv_cpr2 he
    injection e' with e1 e2 e3 e4
    subst e1; subst e2; subst e3; subst e4
    have pi := snd_i src g hi
    have pg' : ∀ (s : Shared) (H : Hp) (c : Addr) (cs : List (Str × Addr)) (fp : List Addr), PG (X.blk s H scope (compEnvC scope cs c X.env) fp) t' (rdG X.K cl T C tg') := fun s H c cs fp => snd_g tg' (g.blk scope s H c cs fp) hg'
    have pt' : ∀ (s : Shared) (H : Hp) (c : Addr) (cs : List (Str × Addr)) (fp : List Addr), PTs (X.blk s H scope (compEnvC scope cs c X.env) fp) ifs (rdC X.K cl T C cond) := fun s H c cs fp => snd_c cond (g.blk scope s H c cs fp) hC
    have pi1 : ∀ (s : Shared) (H : Hp) (c : Addr) (cs : List (Str × Addr)) (fp : List Addr), PI (X.blk s H scope (compEnvC scope cs c X.env) fp) t1 i1 (rdI X.K cl T C src1) := fun s H c cs fp => snd_i src1 (g.blk scope s H c cs fp) hi1
    have pg1 : ∀ (s : Shared) (H : Hp) (c : Addr) (cs : List (Str × Addr)) (fp : List Addr), PG (X.blk s H scope (compEnvC scope cs c X.env) fp) t1 (rdG X.K cl T C tg1) := fun s H c cs fp => snd_g tg1 (g.blk scope s H c cs fp) hg1
    have pt1 : ∀ (s : Shared) (H : Hp) (c : Addr) (cs : List (Str × Addr)) (fp : List Addr), PTs (X.blk s H scope (compEnvC scope cs c X.env) fp) ifs1 (rdC X.K cl T C cond1) := fun s H c cs fp => snd_c cond1 (g.blk scope s H c cs fp) hC1
    have pe' : ∀ (s : Shared) (H : Hp) (c : Addr) (cs : List (Str × Addr)) (fp : List Addr), PE (X.blk s H scope (compEnvC scope cs c X.env) fp) el (rdE X.K cl T C elt) := fun s H c cs fp => snd_e elt (g.blk scope s H c cs fp) hE
    refine ⟨fun pins s σ H D I q => ?_⟩
    refine (ps_setLc2 (i := i) g.calm g.nd hNi hyl (by rw [swp_nm, hb]) pi (own := own.map fun i => (N.getD i Str.empty, i)) (vs1 := own1) (blkOk_by (by rw [g.N, g.hsc]; exact hB)) (by rw [own_snd]; exact hOO) pg' pt' pi1 pg1 pt1 pe' (fold_of hi X.env) (fun env => fold_of hi1 env)).run pins s σ H D I ?_
    rw [own_snd]
    obtain ⟨ρ, s, L, em, rs, rd⟩ := q
    exact lc2_read hO hO1 ⟨ρ, s, L, em, rs, rd.imp fun x' H1 q => nm_read q⟩
  | .con v, he => by cases v <;> simp [isE] at he
  | .isi a ts, he => by
    obtain ⟨_, _, _, _, _, _, z, _⟩ := inv_isi he
    cases z
  | .var _, h | .glo _, h | .bin _ _ _, h | .neg _, h | .cmp _ _ _, h | .chn _ _ _ _ _, h | .ite _ _ _, h | .and _ _, h | .or _ _, h | .not _, h | .tup _, h | .lst _, h | .dic _ _, h | .call _ _ _, h | .calk _ _ _ _ _, h | .new _ _ _, h | .blt _ _, h
  | .fld _ _, h | .mth _ _ _ _, h | .idx _ _, h | .slc _ _ _, h | .scl _ _ _ _, h => by simp [isE] at h
theorem asg_ok {X : Cx} (g : Good X N sc sc k cl T C S) {t : Tg} {e : Ex} {st : Stmt} (h : isS N S sc (.asg t e) st = true) : PS X st (rdS X.K cl T C (.asg t e)) := by
  obtain ⟨tg, ex, p, rfl, ht, he, hp, ho⟩ := inv_asg h
  have pe := snd_e e g he
  have pg := snd_g t g ht
  have h1 : (assignEach [tg] X.env).map (·.2) = [assign tg X.env] := by rw [isG_star ht]; rfl
  by_cases hn : noComp ex = true
  · refine ⟨fun pins s σ H D I q => (ps_asg pe pg (swp_of hn _ _ _) (par_of hp _) h1).run pins s σ H D I (asg_read q)⟩
  · cases ex with
    | SetComp => cases ho
    | DictComp => cases ho
    | ListComp el gs scope cp =>
      by_cases htg : ∀ x q, tg ≠ .Name x q
      · refine ⟨fun pins s σ H D I q => (ps_asg pe pg (swp_lc htg) (par_of hp _) h1).run pins s σ H D I (asg_read q)⟩
      · cases tg with
        | Name y py =>
          cases hb : (X.env.blockKind == .function && X.env.kindOf y == some .local && py.line == cp.line && !(scope.names.any fun (n, k) => n == y && (k == .local || k == .cell))) with
          | false => 
            refine ⟨fun pins s σ H D I q => (ps_asg pe pg (by rw [swp_sole, swp_nm, hb]) (par_of hp _) h1).run pins s σ H D I (asg_read q)⟩
          | true =>
            have hyl : X.env.scope.names.lookup y = some .local := by
              simp only [Bool.and_eq_true, beq_iff_eq] at hb
              exact hb.1.1.2
            cases t with
            | nm i =>
              have hNi : X.N[i]? = some y := by
                simp only [isG, Bool.and_eq_true, decide_eq_true_eq] at ht
                rw [g.N]; exact ht.1
              exact ⟨fun pins s σ H D I q => (asg_lc g hNi hyl hb e he).run pins s σ H D I (asg_read q)⟩
            | _ => simp [isG] at ht
        | _ => exact absurd (fun x q z => by cases z) htg
    | _ => exact absurd rfl hn

mutual
theorem snd_s : ∀ (E : Sm) {X : Cx} {e : Stmt}, Good X N sc sc k cl T C S → isS N S sc E e = true → PS X e (rdS X.K cl T C E)
  | .asg t e, X, st, g, h => asg_ok g h
  | .aug i op e, X, st, g, h => by
    cases st with
    | AugAssign tg o ex p =>
      cases tg with
      | Name x tp =>
        simp only [isS, Bool.and_eq_true, decide_eq_true_eq] at h
        obtain ⟨⟨⟨h1, h2⟩, h3⟩, h4⟩ := h
        obtain ⟨l1, l2⟩ := g.fn x h2
        refine PS.ex fun D σ H q => ⟨_, ps_aug (i := i) g.nd (by rw [g.N]; exact h1) l1 (snd_e e g h4) (op_any (f := inplaceOp o)) l2, ?_⟩
        obtain ⟨ρ, s, L, em, rs, rd⟩ := q
        simp only [evS] at rd
        split at rd
        · rename_i x0 hx
          obtain ⟨v', hv, rv⟩ := rs.get hx
          refine ⟨v', hv, ρ, s, L, em, rs, (rd.toS (RV X.K cl)).imp fun y' H1 ⟨ρ1, y, L1, n1, em1, ry, rd⟩ => ?_⟩
          have rd := rd.toS (RV X.K cl)
          refine aug_ok (Z := fun _ => True) rfl h3 em1 (RV.nx em n1 rv) ry (rd.imp fun z' H2 ⟨ρ2, z, L2, n2, em2, rz, rd⟩ => ?_)
          exact rd ρ2 H2 _ Nx.refl em2 (((rs.nx em n1).nx em1 n2).set rz)
        · exact rd.elim
      | _ => simp [isS] at h
    | _ => simp [isS] at h
  | .augf _ _ _ _, X, st, g, h => by simp [isS] at h
  | .augs _ _ _ _, X, st, g, h => by simp [isS] at h
  | .exp e, X, st, g, h => by
    cases st with
    | Expr ex p =>
      simp only [isS, Bool.and_eq_true] at h
      refine PS.ex fun D σ H q => ⟨_, ps_expr (snd_e e g h.1) (swp_of h.2 _ _ _), ?_⟩
      obtain ⟨ρ, s, L, em, rs, rd⟩ := q
      simp only [evS] at rd
      refine ⟨ρ, s, L, em, rs, (rd.toS (RV X.K cl)).imp fun y' H1 ⟨ρ1, y, L1, n1, em1, ry, rd⟩ => ?_⟩
      exact rd ρ1 H1 _ Nx.refl em1 (rs.nx em n1)
    | _ => simp [isS] at h
  | .ite c a b, X, st, g, h => by
    cases st with
    | If t u v p =>
      simp only [isS, Bool.and_eq_true] at h
      refine PS.ex fun D σ H q => ⟨_, ps_if (snd_t c g h.1.1) (snd_ss a g h.1.2) (snd_ss b g h.2), ?_⟩
      obtain ⟨ρ, s, L, em, rs, rd⟩ := q
      rw [evS_ite] at rd
      refine ⟨ρ, s, L, em, rs, (rd.toS RB).imp fun k' H1 ⟨ρ1, k1, L1, n1, em1, ek, rd⟩ => ?_⟩
      cases ek
      cases k' with
      | true => rw [if_pos rfl] at rd ⊢; exact ⟨ρ1, s, L1, em1, rs.nx em n1, rd⟩
      | false => rw [if_neg Bool.false_ne_true] at rd ⊢; exact ⟨ρ1, s, L1, em1, rs.nx em n1, rd⟩
    | _ => simp [isS] at h
  | .for t it b, X, st, g, h => by
    cases st with
    | For tg iter body els p =>
      cases els with
      | cons _ _ => simp [isS] at h
      | nil =>
        simp only [isS, Bool.and_eq_true] at h
        refine PS.ex fun D σ H q => ⟨_, ps_for (by rw [g.never]; exact PassesOwn.never) g.calm (snd_i it g h.1.2) (snd_g t g h.1.1) (snd_ss b g h.2) (fold_of h.1.2 X.env), for_read q⟩
    | _ => simp [isS] at h
  | .whl c b, X, st, g, h => by
    cases st with
    | While t body els p =>
      cases els with
      | cons _ _ => simp [isS] at h
      | nil =>
        simp only [isS, Bool.and_eq_true] at h
        refine PS.ex fun D σ H q => ⟨_, ps_while (by rw [g.never]; exact PassesOwn.never) (snd_t c g h.1) (snd_ss b g h.2), whl_read q⟩
    | _ => simp [isS] at h
  | .ret e, X, st, g, h => by
    cases st with
    | Return ex p =>
      cases ex with
      | none => simp [isS] at h
      | some ex =>
        simp only [isS] at h
        refine PS.ex fun D σ H q => ⟨_, ps_ret (snd_e e g h), ?_⟩
        obtain ⟨ρ, s, L, em, rs, rd⟩ := q
        simp only [evS] at rd
        exact ⟨ρ, s, L, em, rs, (rd.toS (RV X.K cl)).imp fun y' H1 ⟨ρ1, y, L1, n1, em1, ry, rd⟩ => rd ρ1 H1 _ Nx.refl em1 ry⟩
    | _ => simp [isS] at h
  | .retN, X, st, g, h => by
    cases st with
    | Return ex p =>
      cases ex with
      | some _ => simp [isS] at h
      | none =>
        refine PS.ex fun D σ H q => ⟨_, ps_retN, ?_⟩
        obtain ⟨ρ, s, L, em, rs, rd⟩ := q
        simp only [evS] at rd
        exact rd ρ H _ Nx.refl em rfl
    | _ => simp [isS] at h
  | .brk, X, st, g, h => by
    cases st with
    | Break p =>
      refine PS.ex fun D σ H q => ⟨_, ps_break, ?_⟩
      obtain ⟨ρ, s, L, em, rs, rd⟩ := q
      simp only [evS] at rd
      exact rd ρ H _ Nx.refl em rs
    | _ => simp [isS] at h
  | .cnt, X, st, g, h => by
    cases st with
    | Continue p =>
      refine PS.ex fun D σ H q => ⟨_, ps_continue, ?_⟩
      obtain ⟨ρ, s, L, em, rs, rd⟩ := q
      simp only [evS] at rd
      exact rd ρ H _ Nx.refl em rs
    | _ => simp [isS] at h
  | .pass, X, st, g, h => by
    cases st with
    | Pass p =>
      refine PS.ex fun D σ H q => ⟨_, ps_pass, ?_⟩
      obtain ⟨ρ, s, L, em, rs, rd⟩ := q
      simp only [evS] at rd
      exact rd ρ H _ Nx.refl em rs
    | _ => simp [isS] at h
  | .rse, X, st, g, h => by
    refine PS.ex fun D σ H q => ⟨_, ps_never, ?_⟩
    obtain ⟨ρ, s, L, em, rs, rd⟩ := q
    simp only [evS] at rd
    exact rd.elim
  | .mch e cs, X, st, g, h => by
    cases st with
    | Match ex ms p =>
      simp only [isS, Bool.and_eq_true] at h
      have pe := snd_e e g h.1
      refine ⟨fun pins s0 σ H D I q => wpAny_Match ?_⟩
      obtain ⟨ρ, s, L, em, rs, rd⟩ := q
      simp only [evS] at rd
      refine thn (pe.run pins s0 σ H _ I ⟨ρ, s, L, em, rs, rd.toS (RV X.K cl)⟩) fun u s1 ⟨v', H1, I1, ru, ρ1, v, L1, n1, em1, rv, rd⟩ => ?_
      exact snd_cs cs g h.2 I1 em1 (rs.nx em n1) rv ru rd
    | _ => simp [isS] at h
  | .del _ _, X, st, g, h => by simp [isS] at h
termination_by E => sizeOf E
theorem snd_ss : ∀ (E : List Sm) {X : Cx} {e : List Stmt}, Good X N sc sc k cl T C S → isSs N S sc E e = true → PSs X e (rdSs X.K cl T C E)
  | [], X, e, g, h => by
    cases e with
    | cons _ _ => simp [isSs] at h
    | nil =>
      refine PSs.ex fun D σ H q => ⟨_, pss_nil, ?_⟩
      obtain ⟨ρ, s, L, em, rs, rd⟩ := q
      simp only [evSs] at rd
      exact rd ρ H _ Nx.refl em rs
  | a :: r, X, e, g, h => by
    cases e with
    | nil => simp [isSs] at h
    | cons e es =>
      simp only [isSs, Bool.and_eq_true] at h
      refine PSs.ex fun D σ H q => ⟨_, pss_cons (snd_s a g h.1) (snd_ss r g h.2), ?_⟩
      obtain ⟨ρ, s, L, em, rs, rd⟩ := q
      simp only [evSs] at rd
      have rd := rd.bind
      refine ⟨ρ, s, L, em, rs, ?_⟩
      cases hr : evS T C a s L with
      | stuck => rw [hr] at rd; exact rd
      | nx s1 L1 =>
        rw [hr] at rd
        intro ρ' H' σ' n e' r'
        obtain ⟨ρ2, s2, L2, _, em2, rs2, q⟩ := rd ρ' H' σ' n e' r'
        exact ⟨ρ2, s2, L2, em2, rs2, q⟩
      | rt v L1 => rw [hr] at rd; exact rd
      | bk s1 L1 => rw [hr] at rd; exact rd
      | ct s1 L1 => rw [hr] at rd; exact rd
termination_by E => sizeOf E
theorem snd_cs : ∀ (E : List Cs) {X : Cx} {e : List MatchCase} {first : Bool} {ρ : List Addr} {L : LH} {H : Hp} {σ : L2.St} {sl : Sl} {pins : List (Addr × Obj)} {s : Shared} {v : LV} {v' : V} {u : Value} {D : Ends}, Good X N sc sc k cl T C S → isCs N S sc E e = true →
    Inv X pins σ H s → Em X.K cl ρ L H → RS X.K cl ρ H sl σ → RV X.K cl ρ H v v' → RelV v' u → SRd X.K cl D ρ H (evCs T C E v sl L) → wpAny (model X.prog X.w) X.A (matchCases e X.env u first) (SP X pins D) X.xe s
  | [], X, e, first, ρ, L, H, σ, sl, pins, s, v, v', u, D, g, h, I, em, rs, rv, ru, rd => by
    cases e with
    | cons _ _ => simp [isCs] at h
    | nil =>
      simp only [evCs] at rd
      exact wpAny_matchCases_nil ⟨σ, H, I, rd ρ H σ Nx.refl em rs⟩
  | .mk p b :: r, X, e, first, ρ, L, H, σ, sl, pins, s, v, v', u, D, g, h, I, em, rs, rv, ru, rd => by
    cases e with
    | nil => simp [isCs] at h
    | cons m ms =>
      obtain ⟨q, gd, body⟩ := m
      cases gd with
      | some _ => simp [isCs] at h
      | none =>
        simp only [isCs, Bool.and_eq_true] at h
        obtain ⟨⟨h1, h2⟩, h3⟩ := h
        simp only [evCs] at rd
        have hm : mtP L p v ≠ .stuck := fun z => by rw [z] at rd; exact rd
        refine wpAny_matchCases_cons (mt_p p g h1 I em rv ru hm fun r1 s1 I1 q1 => ?_)
        cases hr : mtP L p v with
        | stuck => exact absurd hr hm
        | miss =>
          rw [hr] at q1 rd
          cases r1 with
          | some _ => exact q1.elim
          | none => exact snd_cs r g h3 I1 em rs rv ru rd
        | hit bs =>
          rw [hr] at q1 rd
          cases r1 with
          | none => exact q1.elim
          | some b' =>
            obtain ⟨bs', c1, c2, c3⟩ := q1
            refine bind_ok g.nd I1 rs c1 c2 c3 fun σ' s2 I2 rs2 => ?_
            exact (snd_ss b g h2).run pins s2 σ' H D I2 ⟨ρ, _, L, em, rs2, rd⟩
termination_by E => sizeOf E
end
end
end G
set_option Elab.async false
set_option linter.all false
set_option maxRecDepth 100000
set_option maxHeartbeats 4000000
/-! G9: how a def's parameters are bound: one rule for all. -/
namespace G
open PySem PySem.Spec PyProof.Rows L2 PySem.W
theorem Looks.forIn {M : Model} {h : Heap} {α σ : Type} {f : α → σ → Sem (ForInStep σ)} (step : α → σ → σ) (inv : List α → σ → Prop) (hf : ∀ a r s, inv (a :: r) s → Looks M h (f a s) (.yield (step a s)) ∧ inv r (step a s)) :
    ∀ (l : List α) (s : σ), inv l s → Looks M h (forIn l s f) (l.foldl (fun s a => step a s) s)
  | [], s, _ => by rw [List.forIn_nil]; exact Looks.now
  | a :: r, s, hi => by
    obtain ⟨h1, h2⟩ := hf a r s hi
    rw [List.forIn_cons]
    exact h1.andThen (Looks.forIn step inv hf r (step a s) h2)
abbrev Slots := List (Str × Value)
def fillL (s : Slots) (l : Slots) : Slots := l.foldl (fun s q => if (s.lookup q.1).isNone then s ++ [q] else s) s
theorem lookup_none {s : Slots} {x : Str} : (s.lookup x).isNone = !(s.map (·.1)).contains x := by
  induction s with
  | nil => rfl
  | cons a r ih =>
    obtain ⟨n, v⟩ := a
    rw [List.lookup_cons, List.map_cons, List.contains_cons]
    cases e : x == n with
    | true => simp
    | false => simpa using ih
theorem fillL_eq : ∀ {l s : Slots}, (l.map (·.1)).Nodup → fillL s l = s ++ l.filter (fun q => !(s.map (·.1)).contains q.1)
  | [], s, _ => by simp [fillL]
  | q :: r, s, h => by
    rw [List.map_cons, List.nodup_cons] at h
    show fillL (if (s.lookup q.1).isNone then s ++ [q] else s) r = _
    rw [lookup_none]
    cases e : (s.map (·.1)).contains q.1 with
    | true =>
      rw [if_neg (by simp), fillL_eq h.2, List.filter_cons, e]
      rfl
    | false =>
      rw [if_pos (by rfl), fillL_eq h.2, List.filter_cons, e, List.append_assoc]
      congr 1
      simp only [Bool.not_false, if_true, List.singleton_append, List.cons.injEq, true_and]
      apply List.filter_congr
      intro z hz
      have ne : z.1 ≠ q.1 := fun w => h.1 (by rw [← w]; exact List.mem_map_of_mem hz)
      simp [List.map_append, List.contains_append, ne]
theorem zip_take : ∀ {P : List Str} {us : List Value}, P.zip us = (P.take us.length).zip us
  | [], us => by simp
  | p :: P, [] => rfl
  | p :: P, u :: us => by
    show (p, u) :: P.zip us = (p, u) :: (P.take us.length).zip us
    rw [← zip_take]
theorem fm_congr {α β : Type} {f g : α → Option β} : ∀ {l : List α}, (∀ x ∈ l, f x = g x) → l.filterMap f = l.filterMap g
  | [], _ => rfl
  | a :: r, h => by
    rw [List.filterMap_cons, List.filterMap_cons, h a List.mem_cons_self, fm_congr fun x hx => h x (List.mem_cons_of_mem _ hx)]
theorem all_lookup : ∀ {X : Slots}, (X.map (·.1)).Nodup → (X.map (·.1)).filterMap (fun n => (X.lookup n).map (n, ·)) = X
  | [], _ => rfl
  | (n, v) :: r, h => by
    rw [List.map_cons, List.nodup_cons] at h
    rw [List.map_cons, List.filterMap_cons]
    simp only [List.lookup_cons, beq_self_eq_true]
    simp only [Option.map_some, List.cons.injEq, true_and]
    refine Eq.trans ?_ (all_lookup h.2)
    apply fm_congr
    intro z hz
    have ne : z ≠ n := fun w => h.1 (by rw [← w]; exact hz)
    have : (z == n) = false := by simpa using ne
    rw [this]
theorem zip_keys : ∀ {P : List Str} {vs : List Value}, P.length = vs.length → (P.zip vs).map (·.1) = P
  | [], _, _ => rfl
  | p :: P, [], h => by cases h
  | p :: P, v :: vs, h => by
    show p :: (P.zip vs).map (·.1) = _
    rw [zip_keys (by simpa using h)]
theorem zip_self : ∀ {X : Slots}, (X.map (·.1)).zip (X.map (·.2)) = X
  | [] => rfl
  | (n, v) :: r => by
    show (n, v) :: (r.map (·.1)).zip (r.map (·.2)) = _
    rw [zip_self]
/-- what K holds of the defaults -/
def dflIn (K : Frag) : Value → Option (List Value)
  | .ref a => match K.lookup a with
    | some ⟨_, _, .seq its _, _⟩ => some its.toList
    | _ => none
  | .none => some []
  | _ => none
/-- a def's own values for its last parameters, behind n positional values and the keywords ks -/
def fillIn (K : Frag) (fd : FuncData) (n : Nat) (ks : List Str) : Option (List Str × List Value) := do
  let p := fd.params
  let pos := p.args.map (·.arg)
  let kwo := p.kwonlyargs.map (·.arg)
  let dl ← dflIn K fd.defaults
  let d := dl.drop (dl.length - pos.length)
  let fdf := pos.length - d.length
  let G := pos.take n ++ ks
  let D := ((pos.drop fdf).zip d).filter fun q => !G.contains q.1
  let E := kwo.filter fun q => !(G ++ D.map (·.1)).contains q
  let ev ← E.mapM fun x => match fd.kwdefaults with
    | .ref a => (nsIn K a x).bind id
    | _ => none
  if p.posonlyargs.isEmpty && p.vararg.isNone && p.kwarg.isNone && decide (n ≤ pos.length) && ks.all (fun k => pos.contains k || kwo.contains k) && (pos.take fdf).all G.contains && decide (pos ++ kwo = G ++ D.map (·.1) ++ E) && decide (pos ++ kwo).Nodup then
    some (pos ++ kwo, D.map (·.2) ++ ev) else none
theorem mapM_len {α β : Type} {f : α → Option β} : ∀ {l : List α} {r : List β}, l.mapM f = some r → r.length = l.length ∧ ∀ q ∈ l.zip r, f q.1 = some q.2
  | [], r, h => by
    simp at h
    subst h
    exact ⟨rfl, fun q hq => by cases hq⟩
  | a :: l, r, h => by
    rw [List.mapM_cons] at h
    obtain ⟨b, hb, h⟩ := Option.bind_eq_some_iff.mp h
    obtain ⟨t, ht, h⟩ := Option.bind_eq_some_iff.mp h
    cases h
    obtain ⟨h1, h2⟩ := mapM_len ht
    refine ⟨by rw [List.length_cons, List.length_cons, h1], fun q hq => ?_⟩
    rcases List.mem_cons.mp hq with e | hq
    · subst e; exact hb
    · exact h2 q hq
theorem looks_dfl {K : Frag} {M : Model} {h : Heap} (X : K.In h) {v : Value} {dl : List Value} (e : dflIn K v = some dl) : ∃ o, (o.getD #[]).toList = dl ∧ Looks M h (seqItems? v) o := by
  unfold dflIn at e
  split at e
  · rename_i a
    split at e
    · rename_i oc od its n osl hl
      cases e
      refine ⟨some its, rfl, ?_⟩
      show Looks M h (load a >>= _) _
      exact Looks.andThen (Looks.ld (X _ _ hl)) Looks.now
    · cases e
  · cases e
    exact ⟨none, rfl, Looks.of_pure rfl⟩
  · cases e
theorem bind_gen {K : Frag} {M : Model} {h : Heap} {fd : FuncData} {n : Nat} {ks ps : List Str} {dV : List Value} {us ws : List Value} (X : K.In h) (e : fillIn K fd n ks = some (ps, dV)) (hu : us.length = n) (hw : ws.length = ks.length) :
    Looks M h (bindArgs fd ⟨us, ks.zip ws⟩) (ps.zip (us ++ ws ++ dV)) := by
  unfold fillIn at e
  simp only [Option.bind_eq_bind, Option.bind_eq_some_iff] at e
  obtain ⟨dl, hdl, ev, hev, e⟩ := e
  split at e
  rotate_left
  · cases e
  rename_i hc
  cases e
  simp only [Bool.and_eq_true, decide_eq_true_eq, List.isEmpty_iff, Option.isNone_iff_eq_none] at hc
  obtain ⟨⟨⟨⟨⟨⟨⟨hp, hv⟩, hk⟩, hn⟩, hks⟩, hmiss⟩, hP⟩, hnd⟩ := hc
  generalize hpos : fd.params.args.map (·.arg) = pos at *
  generalize hkwo : fd.params.kwonlyargs.map (·.arg) = kwo at *
  generalize hd : dl.drop (dl.length - pos.length) = d at *
  generalize hD : (((pos.drop (pos.length - d.length)).zip d).filter fun q => !(pos.take n ++ ks).contains q.1) = D at *
  generalize hE : (kwo.filter fun q => !((pos.take n ++ ks) ++ D.map (·.1)).contains q) = E at *
  obtain ⟨hel, hez⟩ := mapM_len hev
  have hnd' := hnd
  rw [hP] at hnd'
  -- the slots behind the arguments
  have z1 : (pos.zip us) = (pos.take n).zip us := by rw [← hu]; exact zip_take
  have hslots : (pos.zip us ++ ks.zip ws).map (·.1) = pos.take n ++ ks := by
    rw [List.map_append, z1, zip_keys (by rw [List.length_take]; omega), zip_keys hw.symm]
  unfold bindArgs
  simp only [hp, hv, hk, List.map_nil, List.nil_append, hpos, hkwo]
  refine Looks.andThen (Looks.forIn (fun (x : Str × Value) (s : Slots × Slots) => (s.1 ++ [(x.1, x.2)], s.2)) (fun l s => (∀ x ∈ l, pos.contains x.1 = true ∨ kwo.contains x.1 = true) ∧ (s.1.map (·.1) ++ l.map (·.1)).Nodup) ?_ _ _ ?_) ?_
  · rintro ⟨x, v⟩ r ⟨s, t⟩ ⟨i1, i2⟩
    have c1 : (pos.contains x || kwo.contains x) = true := by
      rcases i1 (x, v) List.mem_cons_self with q | q
      · rw [show pos.contains x = true from q]; rfl
      · rw [show kwo.contains x = true from q, Bool.or_true]
    have c2 : ¬ (List.lookup x s).isSome = true := by
      have q : (s.lookup x).isNone = true := by
        rw [lookup_none]
        have : x ∉ s.map (·.1) := fun z => (List.nodup_append.mp i2).2.2 x z x (by simp) rfl
        simpa using this
      cases hl : s.lookup x with
      | none => simp
      | some _ => rw [hl] at q; cases q
    refine ⟨?_, fun y hy => i1 y (List.mem_cons_of_mem _ hy), by simpa [List.append_assoc] using i2⟩
    rw [if_pos c1, if_neg c2]
    exact Looks.now
  · refine ⟨fun x hx => ?_, ?_⟩
    · have := List.all_eq_true.mp hks x.1 (List.of_mem_zip hx).1
      simpa [Bool.or_eq_true] using this
    · rw [← List.map_append, hslots]
      exact ((List.nodup_append.mp hnd').1 |> fun h => (List.nodup_append.mp h).1)
  have hfold : ∀ (l : Slots) (s t : Slots), l.foldl (fun (s : Slots × Slots) a => (s.1 ++ [(a.1, a.2)], s.2)) (s, t) = (s ++ l, t) := by
    intro l
    induction l with
    | nil => intro s t; simp
    | cons a r ih => intro s t; rw [List.foldl_cons, ih]; simp
  rw [hfold]
  obtain ⟨o, ho, lo⟩ := looks_dfl (M := M) X hdl
  refine Looks.andThen lo ?_
  rw [if_neg (by simp; omega)]
  simp only [ho]
  have hmiss2 : ((pos.take (pos.length - d.length)).filter fun n => (List.lookup n (pos.zip us ++ ks.zip ws)).isNone) = [] := by
    rw [List.filter_eq_nil_iff]
    intro a ha
    rw [lookup_none, hslots]
    have := List.all_eq_true.mp hmiss a ha
    rw [this]
    simp
  rw [hd, hmiss2]
  simp only [List.isEmpty_nil, Bool.not_true, Bool.false_eq_true, if_false]
  refine Looks.andThen (Looks.forIn (fun (x : Str × Value) (s : Slots) => if (s.lookup x.1).isNone then s ++ [x] else s) (fun _ _ => True) ?_ _ _ trivial) ?_
  · rintro ⟨x, v⟩ r s _
    refine ⟨?_, trivial⟩
    by_cases c : (List.lookup x s).isNone = true
    · simp only [c, if_true]; exact Looks.now
    · simp only [c, Bool.false_eq_true, if_false]; exact Looks.now
  have hz : (((pos.drop (pos.length - d.length)).zip d).map (·.1)).Nodup := by
    have hdl2 : (pos.drop (pos.length - d.length)).length = d.length := by
      rw [List.length_drop]
      have : d.length ≤ pos.length := by rw [← hd, List.length_drop]; omega
      omega
    rw [zip_keys hdl2]
    exact ((List.nodup_append.mp hnd).1).sublist (List.drop_sublist _ _)
  have f1 : (((pos.drop (pos.length - d.length)).zip d).foldl (fun (s : Slots) x => if (s.lookup x.1).isNone then s ++ [x] else s) (pos.zip us ++ ks.zip ws)) = (pos.zip us ++ ks.zip ws) ++ D := by
    have := fillL_eq (s := pos.zip us ++ ks.zip ws) hz
    rw [hslots, hD] at this
    exact this
  rw [f1]
  have keys2 : ((pos.zip us ++ ks.zip ws) ++ D).map (·.1) = (pos.take n ++ ks) ++ D.map (·.1) := by rw [List.map_append, hslots]
  -- the keyword-only ones
  have key : ∀ x ∈ E, ∃ a v, fd.kwdefaults = .ref a ∧ nsIn K a x = some (some v) := by
    intro x hx
    obtain ⟨i, hi, rfl⟩ := List.mem_iff_getElem.mp hx
    have := hez (E[i], ev[i]'(by omega)) (by rw [List.mem_iff_getElem]; exact ⟨i, by simp; omega, by simp⟩)
    simp only at this
    split at this
    · rename_i a ha
      cases hq : nsIn K a E[i] with
      | none => rw [hq] at this; cases this
      | some q =>
        rw [hq] at this
        cases q with
        | none => cases this
        | some v => exact ⟨a, v, ha, hq⟩
    · cases this
  let kv : Str → Value := fun x => match fd.kwdefaults with
    | .ref a => ((nsIn K a x).bind id).getD .none
    | _ => .none
  refine Looks.andThen (Looks.forIn (fun (x : Str) (s : Slots × List Str) => if (s.1.lookup x).isNone then (s.1 ++ [(x, kv x)], s.2) else s) (fun l s => ∀ x ∈ l, (s.1.lookup x).isNone = true → x ∈ E) ?_ _ _ ?_) ?_
  · rintro x r ⟨s, t⟩ hi
    by_cases c : (List.lookup x s).isNone = true
    · obtain ⟨a, v, h1, h2⟩ := key x (hi x List.mem_cons_self c)
      have hkv : kv x = v := by show (match fd.kwdefaults with | .ref a => ((nsIn K a x).bind id).getD .none | _ => .none) = v; rw [h1]; simp [h2]
      simp only [c, if_true]
      refine ⟨?_, fun y hy hn => hi y (List.mem_cons_of_mem _ hy) ?_⟩
      · rw [hkv]
        simp only [h1]
        exact Looks.andThen (looks_nsIn X h2) Looks.now
      · rw [lookup_none] at hn ⊢
        simp only [List.map_append, List.contains_append, Bool.not_or, Bool.and_eq_true] at hn
        exact hn.1
    · simp only [c, Bool.false_eq_true, if_false]
      exact ⟨Looks.now, fun y hy hn => hi y (List.mem_cons_of_mem _ hy) hn⟩
  · intro x hx hn
    rw [lookup_none, keys2] at hn
    rw [← hE]
    exact List.mem_filter.mpr ⟨hx, hn⟩
  have hfold3 : ∀ (l : List Str) (s : Slots) (t : List Str), l.foldl (fun (s : Slots × List Str) x => if (s.1.lookup x).isNone then (s.1 ++ [(x, kv x)], s.2) else s) (s, t) = (fillL s (l.map fun x => (x, kv x)), t) := by
    intro l
    induction l with
    | nil => intro s t; rfl
    | cons a r ih =>
      intro s t
      rw [List.foldl_cons, List.map_cons]
      show _ = (fillL (if (s.lookup a).isNone then s ++ [(a, kv a)] else s) _, t)
      by_cases c : (List.lookup a s).isNone = true
      · simp only [c, if_true]; exact ih _ _
      · simp only [c, Bool.false_eq_true, if_false]; exact ih _ _
  rw [hfold3]
  have nk : kwo.Nodup := (List.nodup_append.mp hnd).2.1
  have f2 : fillL ((pos.zip us ++ ks.zip ws) ++ D) (kwo.map fun x => (x, kv x)) = ((pos.zip us ++ ks.zip ws) ++ D) ++ E.map fun x => (x, kv x) := by
    rw [fillL_eq (by simpa [Function.comp_def] using nk), keys2, ← hE]
    congr 1
    rw [List.filter_map]
    rfl
  rw [f2]
  simp only [List.isEmpty_nil, Bool.not_true, Bool.false_eq_true, if_false]
  have hev2 : E.map (fun x => (x, kv x)) = E.zip ev := by
    apply List.ext_getElem
    · simp; omega
    · intro i h1 h2
      simp at h1 h2 ⊢
      have q := hez (E[i], ev[i]'(by omega)) (by rw [List.mem_iff_getElem]; exact ⟨i, by simp; omega, by simp⟩)
      simp only at q
      show (match fd.kwdefaults with | .ref a => ((nsIn K a E[i]).bind id).getD .none | _ => .none) = _
      split at q
      · rename_i a ha
        rw [q]; rfl
      · cases q
  have fin : pos ++ kwo = (((pos.zip us ++ ks.zip ws) ++ D) ++ E.map fun x => (x, kv x)).map (·.1) := by
    rw [List.map_append, keys2, hP]
    congr 1
    simp [Function.comp_def]
  refine Looks.of_pure ?_
  show pure _ = pure _
  congr 1
  have a1 : (pos ++ kwo).filterMap (fun n => (List.lookup n (((pos.zip us ++ ks.zip ws) ++ D) ++ E.map fun x => (x, kv x))).map (n, ·)) = ((pos.zip us ++ ks.zip ws) ++ D) ++ E.map fun x => (x, kv x) := by
    have := all_lookup (X := ((pos.zip us ++ ks.zip ws) ++ D) ++ E.map fun x => (x, kv x)) (by rw [← fin]; exact hnd)
    rw [← fin] at this
    exact this
  refine a1.trans ?_
  rw [hP, hev2, z1]
  have l1 : (pos.take n).length = us.length := by rw [List.length_take]; omega
  rw [List.append_assoc us ws, List.append_assoc (pos.take n) ks, List.append_assoc (pos.take n), List.zip_append l1]
  rw [List.append_assoc (as := ks), ← List.append_assoc (as := ws)]
  rw [List.append_assoc ws, List.zip_append hw.symm, List.zip_append (by simp), zip_self, List.append_assoc, List.append_assoc]
end G
set_option Elab.async false
set_option linter.all false
set_option maxRecDepth 100000
set_option maxHeartbeats 4000000
/-! G10: views: what a def gives, with the objects that nobody sees any more forgotten. -/
namespace G
open PySem PySem.Spec PyProof.Rows L2 PySem.W
mutual
/-- the view x of the value a: what is no longer written may have been frozen -/
def vwV (f : Nat → Nat) (m : Nat) (L1 : LH) : LV → LV → Prop
  | .ref i, a => a = .ref (f i)
  | .tup xs, a => ∃ ys, a = .tup ys ∧ vwVs f m L1 xs ys
  | .fl xs, a => (∃ ys, a = .fl ys ∧ vwVs f m L1 xs ys) ∨ (∃ j ys, a = .ref j ∧ L1[j]? = some (.lst ys) ∧ (∀ i, i < m → f i ≠ j) ∧ vwVs f m L1 xs ys)
  | .ob C ns xs, a => (∃ ys, a = .ob C ns ys ∧ vwVs f m L1 xs ys) ∨ (∃ j fs, a = .ref j ∧ L1[j]? = some (.ins C fs) ∧ (∀ i, i < m → f i ≠ j) ∧ fs.map (·.1) = ns ∧ vwVs f m L1 xs (fs.map (·.2)))
  | .non, a => a = .non | .bl b, a => a = .bl b | .int i, a => a = .int i | .str x, a => a = .str x
def vwVs (f : Nat → Nat) (m : Nat) (L1 : LH) : List LV → List LV → Prop
  | [], ys => ys = []
  | x :: xs, ys => ∃ y r, ys = y :: r ∧ vwV f m L1 x y ∧ vwVs f m L1 xs r
end
def vwFs (f : Nat → Nat) (m : Nat) (L1 : LH) : List (String × LV) → List (String × LV) → Prop
  | [], ys => ys = []
  | x :: xs, ys => ∃ y r, ys = (x.1, y) :: r ∧ vwV f m L1 x.2 y ∧ vwFs f m L1 xs r
def vwKs (f : Nat → Nat) (m : Nat) (L1 : LH) : List (LV × LV) → List (LV × LV) → Prop
  | [], ys => ys = []
  | x :: xs, ys => ∃ y r, ys = (x.1, y) :: r ∧ vwV f m L1 x.2 y ∧ vwKs f m L1 xs r
def vwO (f : Nat → Nat) (m : Nat) (L1 : LH) : LO → LO → Prop
  | .lst xs, o => ∃ ys, o = .lst ys ∧ vwVs f m L1 xs ys
  | .dic xs, o => ∃ ys, o = .dic ys ∧ vwKs f m L1 xs ys
  | .ins c xs, o => ∃ ys, o = .ins c ys ∧ vwFs f m L1 xs ys
section
variable {f : Nat → Nat} {n m : Nat} {L1 : LH} (hf : ∀ i, i < n → f i = i)
include hf
mutual
theorem vwV_id : ∀ {v : LV}, clV n v = true → vwV f m L1 v v
  | .non, _ => rfl
  | .bl _, _ => rfl
  | .int _, _ => rfl
  | .str _, _ => rfl
  | .ref i, h => by
    simp only [clV, decide_eq_true_eq] at h
    simp only [vwV, hf i h]
  | .tup xs, h => ⟨xs, rfl, vwVs_id h⟩
  | .fl xs, h => .inl ⟨xs, rfl, vwVs_id h⟩
  | .ob _ _ xs, h => .inl ⟨xs, rfl, vwVs_id h⟩
theorem vwVs_id : ∀ {v : List LV}, clVs n v = true → vwVs f m L1 v v
  | [], _ => rfl
  | x :: xs, h => by
    simp only [clVs, Bool.and_eq_true] at h
    exact ⟨x, xs, rfl, vwV_id h.1, vwVs_id h.2⟩
end
theorem vwFs_id : ∀ {v : List (String × LV)}, clFs n v = true → vwFs f m L1 v v
  | [], _ => rfl
  | (a, x) :: xs, h => by
    simp only [clFs, Bool.and_eq_true] at h
    exact ⟨x, xs, rfl, vwV_id hf h.1, vwFs_id h.2⟩
theorem vwKs_id : ∀ {v : List (LV × LV)}, clKs n v = true → vwKs f m L1 v v
  | [], _ => rfl
  | (a, x) :: xs, h => by
    simp only [clKs, Bool.and_eq_true] at h
    exact ⟨x, xs, rfl, vwV_id hf h.1, vwKs_id h.2⟩
theorem vwO_id {o : LO} (h : clO n o = true) : vwO f m L1 o o := by
  cases o with
  | lst xs => exact ⟨xs, rfl, vwVs_id hf h⟩
  | dic xs => exact ⟨xs, rfl, vwKs_id hf h⟩
  | ins c xs => exact ⟨xs, rfl, vwFs_id hf h⟩
end
mutual
theorem clV_mono {n m : Nat} (h : n ≤ m) : ∀ {v : LV}, clV n v = true → clV m v = true
  | .non, _ => rfl
  | .bl _, _ => rfl
  | .int _, _ => rfl
  | .str _, _ => rfl
  | .ref i, e => by
    simp only [clV, decide_eq_true_eq] at e ⊢
    omega
  | .tup xs, e => by
    simp only [clV] at e ⊢
    exact clVs_mono h e
  | .fl xs, e => by
    simp only [clV] at e ⊢
    exact clVs_mono h e
  | .ob _ _ xs, e => by
    simp only [clV] at e ⊢
    exact clVs_mono h e
theorem clVs_mono {n m : Nat} (h : n ≤ m) : ∀ {v : List LV}, clVs n v = true → clVs m v = true
  | [], _ => rfl
  | x :: xs, e => by
    simp only [clVs, Bool.and_eq_true] at e ⊢
    exact ⟨clV_mono h e.1, clVs_mono h e.2⟩
end
theorem clFs_mono {n m : Nat} (h : n ≤ m) : ∀ {v : List (String × LV)}, clFs n v = true → clFs m v = true
  | [], _ => rfl
  | x :: xs, e => by
    simp only [clFs, Bool.and_eq_true] at e ⊢
    exact ⟨clV_mono h e.1, clFs_mono h e.2⟩
theorem clKs_mono {n m : Nat} (h : n ≤ m) : ∀ {v : List (LV × LV)}, clKs n v = true → clKs m v = true
  | [], _ => rfl
  | x :: xs, e => by
    simp only [clKs, Bool.and_eq_true] at e ⊢
    exact ⟨clV_mono h e.1, clKs_mono h e.2⟩
theorem clO_mono {n m : Nat} (h : n ≤ m) {o : LO} (e : clO n o = true) : clO m o = true := by
  cases o with
  | lst xs => exact clVs_mono h e
  | dic xs => exact clKs_mono h e
  | ins c xs => exact clFs_mono h e
/-- the view: L2, r2 stand in L1, r1 at the places f -/
structure Sim (n : Nat) (L1 : LH) (r1 : LV) (L2 : LH) (r2 : LV) : Prop where
  ex : ∃ f : Nat → Nat, (∀ i, i < n → f i = i) ∧ (∀ i j, i < L2.length → j < L2.length → f i = f j → i = j) ∧ (∀ (i : Nat) (o : LO), L2[i]? = some o → ∃ o1, L1[f i]? = some o1 ∧ vwO f L2.length L1 o o1) ∧ vwV f L2.length L1 r2 r1
  cl : ClH L2.length L2
  cr : clV L2.length r2 = true
  le : n ≤ L2.length
/-- no new object is seen -/
theorem Sim.of {L G : LH} {r r1 : LV} (h : ClH L.length L) (hr : clV L.length r = true) (hv : vwV (fun i => i) L.length (L ++ G) r r1) : Sim L.length (L ++ G) r1 L r where
  ex := by
    refine ⟨fun i => i, fun _ _ => rfl, fun _ _ _ _ h => h, fun i o e => ⟨o, ?_, vwO_id (n := L.length) (fun _ _ => rfl) (h i o e)⟩, hv⟩
    show (L ++ G)[i]? = _
    rw [List.getElem?_append_left (List.getElem?_eq_some_iff.mp e).1]
    exact e
  cl := h
  cr := hr
  le := Nat.le_refl _
/-- nothing new is seen -/
theorem Sim.drop {L G : LH} {r : LV} (h : ClH L.length L) (hr : clV L.length r = true) : Sim L.length (L ++ G) r L r :=
  Sim.of h hr (vwV_id (n := L.length) (fun _ _ => rfl) hr)
/-- a new list, frozen -/
theorem Sim.fz {L G : LH} {j : Nat} {xs : List LV} (h : ClH L.length L) (hj : (L ++ G)[j]? = some (.lst xs)) (hl : L.length ≤ j) (hx : clVs L.length xs = true) : Sim L.length (L ++ G) (.ref j) L (.fl xs) :=
  Sim.of h hx (.inr ⟨j, xs, rfl, hj, fun i hi (e : i = j) => by omega, vwVs_id (n := L.length) (fun _ _ => rfl) hx⟩)
/-- a new object is seen, and gives back no other new one -/
theorem Sim.one {L G : LH} {j : Nat} {o : LO} (h : ClH L.length L) (hj : (L ++ G)[j]? = some o) (hl : L.length ≤ j) (ho : clO L.length o = true) : Sim L.length (L ++ G) (.ref j) (L ++ [o]) (.ref L.length) where
  ex := by
    have hid : ∀ i, i < L.length → (if i = L.length then j else i) = i := fun i hi => by rw [if_neg (by omega)]
    refine ⟨fun i => if i = L.length then j else i, fun i hi => if_neg (by omega), fun a b ha hb e => ?_, fun i o' e => ?_, ?_⟩
    · rw [List.length_append, List.length_singleton] at ha hb
      by_cases e1 : a = L.length
      · by_cases e2 : b = L.length
        · omega
        · simp only [e1, if_true, if_neg e2] at e; omega
      · by_cases e2 : b = L.length
        · simp only [e2, if_true, if_neg e1] at e; omega
        · simpa only [if_neg e1, if_neg e2] using e
    · by_cases e1 : i < L.length
      · rw [List.getElem?_append_left e1] at e
        refine ⟨o', ?_, vwO_id (n := L.length) hid (h i o' e)⟩
        rw [show (fun i => if i = L.length then j else i) i = i from hid i e1, List.getElem?_append_left e1]
        exact e
      · have e2 : i = L.length := by
          have := (List.getElem?_eq_some_iff.mp e).1
          rw [List.length_append, List.length_singleton] at this
          omega
        subst e2
        rw [List.getElem?_append_right (Nat.le_refl _), Nat.sub_self] at e
        simp at e
        subst e
        refine ⟨o, ?_, vwO_id (n := L.length) hid ho⟩
        rw [show (fun i => if i = L.length then j else i) L.length = j from if_pos rfl]
        exact hj
    · simp [vwV]
  cl := by
    intro i o' e
    rw [List.length_append]
    by_cases e1 : i < L.length
    · rw [List.getElem?_append_left e1] at e
      exact clO_mono (Nat.le_add_right _ _) (h i o' e)
    · rw [List.getElem?_append_right (by omega)] at e
      have : o' = o := by
        cases hq : i - L.length with
        | zero => rw [hq] at e; simpa using e.symm
        | succ _ => rw [hq] at e; simp at e
      subst this
      exact clO_mono (Nat.le_add_right _ _) ho
  cr := by simp [clV]
  le := by simp
theorem Sim.refl {L : LH} {n : Nat} {r : LV} (h : ClH L.length L) (hr : clV L.length r = true) (hn : n ≤ L.length) : Sim n L r L r where
  ex := ⟨fun i => i, fun _ _ => rfl, fun _ _ _ _ h => h, fun i o e => ⟨o, e, vwO_id (n := L.length) (fun _ _ => rfl) (h i o e)⟩, vwV_id (n := L.length) (fun _ _ => rfl) hr⟩
  cl := h
  cr := hr
  le := hn
theorem vw_len {f : Nat → Nat} {m : Nat} {L1 : LH} : ∀ {xs ys : List LV}, vwVs f m L1 xs ys → ys.length = xs.length
  | [], ys, h => by rw [show ys = [] from h]
  | x :: xs, ys, h => by
    obtain ⟨y, r, rfl, _, h⟩ := h
    rw [List.length_cons, List.length_cons, vw_len h]
theorem nodup_get {α : Type} {l : List α} : l.Nodup ↔ ∀ i j : Nat, i < j → j < l.length → l[i]? = l[j]? → False := by
  unfold List.Nodup
  rw [List.pairwise_iff_getElem]
  constructor
  · intro h i j hij hj e
    rw [List.getElem?_eq_getElem (by omega), List.getElem?_eq_getElem hj] at e
    exact h i j (by omega) hj hij (Option.some.inj e)
  · intro h i j hi hj hij e
    exact h i j hij hj (by rw [List.getElem?_eq_getElem hi, List.getElem?_eq_getElem hj, e])
section
variable {K : Frag} {cl : CA}
mutual
theorem RV.view {ρ ρ2 : List Addr} {H : Hp} {L1 : LH} {f : Nat → Nat} {m : Nat} (hρ : ∀ i, i < m → ρ2[i]? = ρ[f i]?) (hs : ∀ a ∈ ρ2, a ∈ ρ) (hx : ∀ j a, (∀ i, i < m → f i ≠ j) → ρ[j]? = some a → a ∉ ρ2) (em : Em K cl ρ L1 H) :
    ∀ {v u : LV} {v' : V}, clV m v = true → vwV f m L1 v u → RV K cl ρ H u v' → RV K cl ρ2 H v v'
  | .non, _, _, _, w, h => by rw [show _ = LV.non from w] at h; exact h
  | .bl _, _, _, _, w, h => by rw [show _ = LV.bl _ from w] at h; exact h
  | .int _, _, _, _, w, h => by rw [show _ = LV.int _ from w] at h; exact h
  | .str _, _, _, _, w, h => by rw [show _ = LV.str _ from w] at h; exact h
  | .ref i, _, _, c, w, h => by
    rw [show _ = LV.ref (f i) from w] at h
    simp only [clV, decide_eq_true_eq] at c
    obtain ⟨a, h1, h2⟩ := h
    exact ⟨a, h1, by rw [hρ i c]; exact h2⟩
  | .tup xs, _, _, c, w, h => by
    obtain ⟨zs, rfl, w⟩ := w
    obtain ⟨a, ys, h1, h2, h3⟩ := h
    exact ⟨a, ys, h1, h2, RVs.view hρ hs hx em c w h3⟩
  | .fl xs, _, _, c, w, h => by
    rcases w with ⟨zs, rfl, w⟩ | ⟨j, zs, rfl, w1, w2, w⟩
    · obtain ⟨a, ys, h1, h2, h3⟩ := h
      refine ⟨a, ys, h1, ?_, RVs.view hρ hs hx em c w h3⟩
      rcases h2 with ⟨h2, h4⟩ | h2 | h2
      · exact .inl ⟨h2, fun m => h4 (hs a m)⟩
      · exact .inr (.inl h2)
      · exact .inr (.inr h2)
    · obtain ⟨a, h1, h2⟩ := h
      obtain ⟨ys, h3, h4⟩ := em.obj j _ a w1 h2
      exact ⟨a, ys, h1, .inl ⟨h3, hx j a w2 h2⟩, RVs.view hρ hs hx em c w h4⟩
  | .ob C ns xs, _, _, c, w, h => by
    rcases w with ⟨zs, rfl, w⟩ | ⟨j, fs, rfl, w1, w2, rfl, w⟩
    · obtain ⟨a, ca, dx, ys, h1, h2, h3, h4, h5, h6⟩ := h
      exact ⟨a, ca, dx, ys, h1, h2, h3, fun m => h4 (hs a m), by rw [h5]; exact vw_len w, RVs.view hρ hs hx em c w h6⟩
    · obtain ⟨a, h1, h2⟩ := h
      obtain ⟨ca, dx, ys, h3, h4, h5⟩ := em.obj j _ a w1 h2
      obtain ⟨zs, rfl, h6⟩ := rfs_ob h5
      exact ⟨a, ca, dx, zs, h1, h3, h4, hx j a w2 h2, by rw [List.length_map, ← vw_len w, List.length_map], RVs.view hρ hs hx em c w h6⟩
theorem RVs.view {ρ ρ2 : List Addr} {H : Hp} {L1 : LH} {f : Nat → Nat} {m : Nat} (hρ : ∀ i, i < m → ρ2[i]? = ρ[f i]?) (hs : ∀ a ∈ ρ2, a ∈ ρ) (hx : ∀ j a, (∀ i, i < m → f i ≠ j) → ρ[j]? = some a → a ∉ ρ2) (em : Em K cl ρ L1 H) :
    ∀ {v u : List LV} {v' : List V}, clVs m v = true → vwVs f m L1 v u → RVs K cl ρ H u v' → RVs K cl ρ2 H v v'
  | [], _, _, _, w, h => by rw [show _ = [] from w] at h; exact h
  | x :: xs, _, _, c, w, h => by
    obtain ⟨z, zs, rfl, w1, w2⟩ := w
    simp only [clVs, Bool.and_eq_true] at c
    obtain ⟨y, r, h1, h2, h3⟩ := h
    exact ⟨y, r, h1, RV.view hρ hs hx em c.1 w1 h2, RVs.view hρ hs hx em c.2 w2 h3⟩
end
theorem RFs.view {ρ ρ2 : List Addr} {H : Hp} {L1 : LH} {f : Nat → Nat} {m : Nat} (hρ : ∀ i, i < m → ρ2[i]? = ρ[f i]?) (hs : ∀ a ∈ ρ2, a ∈ ρ) (hx : ∀ j a, (∀ i, i < m → f i ≠ j) → ρ[j]? = some a → a ∉ ρ2) (em : Em K cl ρ L1 H) :
    ∀ {v u : List (String × LV)} {v' : List (Str × V)}, clFs m v = true → vwFs f m L1 v u → RFs K cl ρ H u v' → RFs K cl ρ2 H v v'
  | [], _, _, _, w, h => by rw [show _ = [] from w] at h; exact h
  | x :: xs, _, _, c, w, h => by
    obtain ⟨z, zs, rfl, w1, w2⟩ := w
    simp only [clFs, Bool.and_eq_true] at c
    obtain ⟨y, r, h1, h2, h3⟩ := h
    exact ⟨y, r, h1, RV.view hρ hs hx em c.1 w1 h2, RFs.view hρ hs hx em c.2 w2 h3⟩
theorem RKs.view {ρ ρ2 : List Addr} {H : Hp} {L1 : LH} {f : Nat → Nat} {m : Nat} (hρ : ∀ i, i < m → ρ2[i]? = ρ[f i]?) (hs : ∀ a ∈ ρ2, a ∈ ρ) (hx : ∀ j a, (∀ i, i < m → f i ≠ j) → ρ[j]? = some a → a ∉ ρ2) (em : Em K cl ρ L1 H) :
    ∀ {v u : List (LV × LV)} {v' : List (Key × V)}, clKs m v = true → vwKs f m L1 v u → RKs K cl ρ H u v' → RKs K cl ρ2 H v v'
  | [], _, _, _, w, h => by rw [show _ = [] from w] at h; exact h
  | x :: xs, _, _, c, w, h => by
    obtain ⟨z, zs, rfl, w1, w2⟩ := w
    simp only [clKs, Bool.and_eq_true] at c
    obtain ⟨k, y, r, h0, h1, h2, h3⟩ := h
    exact ⟨k, y, r, h0, h1, RV.view hρ hs hx em c.1 w1 h2, RKs.view hρ hs hx em c.2 w2 h3⟩
theorem Sim.view {ρ ρ1 : List Addr} {H H1 : Hp} {L1 L2 : LH} {r1 r2 : LV} {v : V} {n : Nat} (s : Sim n L1 r1 L2 r2) (hn : ρ.length = n) (nx : Nx ρ ρ1 H H1) (em : Em K cl ρ1 L1 H1) (rv : RV K cl ρ1 H1 r1 v) :
    ∃ ρ2, Nx ρ ρ2 H H1 ∧ Em K cl ρ2 L2 H1 ∧ RV K cl ρ2 H1 r2 v := by
  obtain ⟨f, h1, h2, h3, h4⟩ := s.ex
  have hlt : ∀ i, i < L2.length → f i < ρ1.length := fun i hi => by
    obtain ⟨o1, this, _⟩ := h3 i _ (List.getElem?_eq_getElem hi)
    rw [em.len]
    exact (List.getElem?_eq_some_iff.mp this).1
  let ρ2 : List Addr := (List.range L2.length).map fun i => ρ1.getD (f i) 0
  have hl : ρ2.length = L2.length := by simp [ρ2]
  have hρ : ∀ i, i < L2.length → ρ2[i]? = ρ1[f i]? := fun i hi => by
    have := hlt i hi
    simp [ρ2, hi, List.getElem?_map, List.getD, this]
  have hmem : ∀ a ∈ ρ2, a ∈ ρ1 := fun a ha => by
    obtain ⟨i, hi, rfl⟩ := List.mem_iff_getElem.mp ha
    have := hρ i (by omega)
    rw [List.getElem?_eq_getElem hi] at this
    exact List.mem_of_getElem? this.symm
  have hx : ∀ j a, (∀ i, i < L2.length → f i ≠ j) → ρ1[j]? = some a → a ∉ ρ2 := fun j a hj ha m => by
    obtain ⟨i, hi, e⟩ := List.mem_iff_getElem.mp m
    have e1 := hρ i (by omega)
    rw [List.getElem?_eq_getElem hi, e] at e1
    obtain ⟨l1, e1⟩ := List.getElem?_eq_some_iff.mp e1.symm
    obtain ⟨l2, e2⟩ := List.getElem?_eq_some_iff.mp ha
    exact hj i (by omega) ((List.getElem_inj em.nd).mp (e1.trans e2.symm))
  refine ⟨ρ2, ⟨?_, fun a o e na => ⟨(nx.fr a o e na).1, fun h => (nx.fr a o e na).2 (hmem a h)⟩⟩, ⟨hl, ?_, fun i o a hL ha => ?_⟩, ?_⟩
  · rw [List.prefix_iff_eq_take]
    apply List.ext_getElem?
    intro i
    by_cases hi : i < ρ.length
    · rw [List.getElem?_take_of_lt hi, hρ i (by have := s.le; omega), h1 i (by omega)]
      have e : ρ[i]? = some ρ[i] := List.getElem?_eq_getElem hi
      rw [e, pre_get nx.pre e]
    · rw [List.getElem?_eq_none (by omega), List.getElem?_eq_none (by rw [List.length_take]; omega)]
  · rw [nodup_get]
    intro i j hij hj e
    rw [hl] at hj
    rw [hρ i (by omega), hρ j hj] at e
    have l1 := hlt i (by omega)
    have l2 := hlt j hj
    rw [List.getElem?_eq_getElem l1, List.getElem?_eq_getElem l2] at e
    have := (List.getElem_inj em.nd).mp (Option.some.inj e)
    have := h2 i j (by omega) hj this
    omega
  · have hi : i < L2.length := (List.getElem?_eq_some_iff.mp hL).1
    rw [hρ i hi] at ha
    obtain ⟨o1, e1, w⟩ := h3 i o hL
    have q := em.obj (f i) _ a e1 ha
    have c := s.cl i o hL
    cases o with
    | lst xs => obtain ⟨zs, rfl, w⟩ := w; obtain ⟨ys, q1, q2⟩ := q; exact ⟨ys, q1, RVs.view hρ hmem hx em c w q2⟩
    | dic xs => obtain ⟨zs, rfl, w⟩ := w; obtain ⟨ys, q1, q2⟩ := q; exact ⟨ys, q1, RKs.view hρ hmem hx em c w q2⟩
    | ins C fs => obtain ⟨zs, rfl, w⟩ := w; obtain ⟨c', dx, ys, q0, q1, q2⟩ := q; exact ⟨c', dx, ys, q0, q1, RFs.view hρ hmem hx em c w q2⟩
  · exact RV.view hρ hmem hx em s.cr h4 rv
/-- the evaluator's answers meet a summary -/
def Meets (F S : List LV → LH → R LV) : Prop := ∀ args L r2 L2, ClH L.length L → clVs L.length args = true → S args L = .ok r2 L2 → ∃ r L1, F args L = .ok r L1 ∧ Sim L.length L1 r L2 r2
theorem Meets.sp {F S : List LV → LH → R LV} (m : Meets F S) {vs : List V} {H : Hp} {Q : VK} {E : XK} (h : spS K cl S vs H Q E) : spS K cl F vs H Q E := by
  obtain ⟨ρ, args, L, em, rv, r2, L2, e, q⟩ := h
  obtain ⟨r, L1, e1, s⟩ := m args L r2 L2 em.clo (by rw [← em.len]; exact rv.clo) e
  refine ⟨ρ, args, L, em, rv, r, L1, e1, fun ρ1 H1 v' n1 em1 r1 => ?_⟩
  obtain ⟨ρ2, n2, em2, rv2⟩ := s.view em.len n1 em1 r1
  exact q ρ2 H1 v' n2 em2 rv2
end
end G
set_option Elab.async false
set_option linter.all false
set_option maxRecDepth 100000
set_option maxHeartbeats 4000000
/-! G11: what K holds of the law's defs, classes and constants, by one look; the promise of every def by its summary. -/
namespace G
open PySem PySem.Spec PyProof.Rows L2 PySem.W

/-! ### constants -/
mutual
def conB (K : Frag) : LV → Value → Bool
  | .non, .none => true
  | .bl b, .bool c => b == c
  | .int i, .int j _ => i == j
  | .str x, .str y _ => decide (Str.ofString x = y)
  | .tup xs, .ref a => match K.lookup a with
    | some ⟨.type n, _, .seq its _, _⟩ => n == "tuple" && decide (its.size ≤ 1000) && conBs K xs its.toList
    | _ => false
  | .fl xs, .ref a => match K.lookup a with
    | some ⟨.type n, none, .seq its _, sl⟩ => n == "list" && decide (its.size ≤ 1000) && conBs K xs its.toList
    | _ => false
  | _, _ => false
def conBs (K : Frag) : List LV → List Value → Bool
  | [], [] => true
  | x :: xs, u :: us => conB K x u && conBs K xs us
  | _, _ => false
end
section
variable {K : Frag} {cl : CA}
mutual
theorem con_ok : ∀ {v : LV} {u : Value}, conB K v u = true → ∃ y, RelV y u ∧ ∀ ρ H, RV K cl ρ H v y
  | .non, u, h => by
    cases u <;> first | (simp [conB] at h; done) | exact ⟨.non, rfl, fun _ _ => rfl⟩
  | .bl b, u, h => by
    cases u with
    | bool c =>
      simp only [conB, beq_iff_eq] at h
      subst h
      exact ⟨.bl b, rfl, fun _ _ => rfl⟩
    | _ => simp [conB] at h
  | .int i, u, h => by
    cases u with
    | int j t =>
      simp only [conB, beq_iff_eq] at h
      subst h
      exact ⟨.int i, ⟨t, rfl⟩, fun _ _ => rfl⟩
    | _ => simp [conB] at h
  | .str x, u, h => by
    cases u with
    | str y t =>
      simp only [conB, decide_eq_true_eq] at h
      subst h
      exact ⟨.str _, ⟨t, rfl⟩, fun _ _ => rfl⟩
    | _ => simp [conB] at h
  | .tup xs, u, h => by
    cases u with
    | ref a =>
      simp only [conB] at h
      split at h
      · rename_i n d its m sl hl
        simp only [Bool.and_eq_true, beq_iff_eq, decide_eq_true_eq] at h
        obtain ⟨⟨rfl, hz⟩, hc⟩ := h
        obtain ⟨ys, r, q⟩ := cons_ok hc
        exact ⟨.ref a, rfl, fun ρ H => ⟨a, ys, rfl, .inr ⟨_, its, m, hl, rfl, rfl, Nat.le_trans hz (by decide), r⟩, q ρ H⟩⟩
      · cases h
    | _ => simp [conB] at h
  | .fl xs, u, h => by
    cases u with
    | ref a =>
      simp only [conB] at h
      split at h
      · rename_i n its m sl hl
        simp only [Bool.and_eq_true, beq_iff_eq, decide_eq_true_eq] at h
        obtain ⟨⟨rfl, hz⟩, hc⟩ := h
        obtain ⟨ys, r, q⟩ := cons_ok hc
        exact ⟨.ref a, rfl, fun ρ H => ⟨a, ys, rfl, .inr (.inr ⟨its, m, sl, hl, Nat.le_trans hz (by decide), r⟩), q ρ H⟩⟩
      · cases h
    | _ => simp [conB] at h
  | .ref _, u, h => by cases u <;> simp [conB] at h
  | .ob _ _ _, u, h => by cases u <;> simp [conB] at h
theorem cons_ok : ∀ {v : List LV} {u : List Value}, conBs K v u = true → ∃ y, Vals y u ∧ ∀ ρ H, RVs K cl ρ H v y
  | [], [], h => ⟨[], .nil, fun _ _ => rfl⟩
  | [], _ :: _, h => by simp [conBs] at h
  | _ :: _, [], h => by simp [conBs] at h
  | x :: xs, u :: us, h => by
    simp only [conBs, Bool.and_eq_true] at h
    obtain ⟨y, r, q⟩ := con_ok h.1
    obtain ⟨ys, rs, qs⟩ := cons_ok h.2
    exact ⟨y :: ys, .cons r rs, fun ρ H => ⟨y, ys, rfl, q ρ H, qs ρ H⟩⟩
end
end

/-! ### the law's parts -/
structure DefC where
  key : String
  fn : String
  cls : Option String
  ps : List String
  N : List String
  F : Fn
structure SigL where
  call : List (String × Nat × List LV)
  calk : List (String × Nat × List String × List LV)
  new : List (String × Nat × List LV)
  mth : List (String × Nat × List LV)
  fld : List String
  dun : List String
  scl : List (String × String × Nat × List LV)
def SigL.to (s : SigL) : Sig where
  call f n ds := s.call.any fun q => q.1 == f && q.2.1 == n && decide (q.2.2 = ds)
  calk f n ks ds := s.calk.any fun q => q.1 == f && q.2.1 == n && decide (q.2.2.1 = ks) && decide (q.2.2.2 = ds)
  new f n ds := s.new.any fun q => q.1 == f && q.2.1 == n && decide (q.2.2 = ds)
  mth f n ds := s.mth.any fun q => q.1 == f && q.2.1 == n && decide (q.2.2 = ds)
  fld f := s.fld.contains f
  dun f := s.dun.contains f
  scl c m n ds := s.scl.any fun q => q.1 == c && q.2.1 == m && q.2.2.1 == n && decide (q.2.2.2 = ds)
structure Pkg where
  defs : List DefC
  classes : List String
  globs : List (String × LV)
  sig : SigL
def SN (x : String) : Str := Str.ofString x
def SNs (x : List String) : List Str := x.map Str.ofString
def adr (K : Frag) (d : DefC) : Addr := match d.cls with
  | none => He.ga K (SN d.fn)
  | some c => match recIn K (He.ma K (He.ga K (SN c)) (SN d.fn)) "staticmethod" with
    | some (.ref f :: _) => f
    | _ => He.ma K (He.ga K (SN c)) (SN d.fn)
def fnAt (K : Frag) (a : Addr) : FuncData := match K.lookup a with
  | some ⟨_, _, .func fd, _⟩ => fd
  | _ => default
def Pkg.cl (p : Pkg) (K : Frag) : CA := fun c => if p.classes.contains c then some (He.ga K (SN c)) else none
def Pkg.tbl (p : Pkg) : Tbl := ⟨fun x => p.globs.lookup x⟩
/-- a def's text and the syntax without places -/
def defB (K : Frag) (S : Sig) (d : DefC) : Bool := match K.lookup (adr K d) with
  | some ⟨_, _, .func fd, _⟩ => (match fd.body with
    | .stmts b => codeIn K fd.code fd.qualname && C8.scC (SNs d.N) (SNs d.ps) fd.scope && isSs (SNs d.N) S fd.scope d.F.body b && d.F.arity == d.ps.length && d.F.slots == d.N.length &&
        decide (fd.globals = mainGlobals) && fd.closure.isEmpty && decide (fd.builtins = builtinsNs)
    | _ => false)
  | _ => false
def fillB (K : Frag) (d : DefC) (n : Nat) (ks : List String) (ds : List LV) : Bool := match fillIn K (fnAt K (adr K d)) n (SNs ks) with
  | some (ps, dV) => decide (ps = SNs d.ps) && conBs K ds dV && n + ks.length + dV.length == d.ps.length
  | none => false
def gloB (K : Frag) (x : String) (a : Addr) : Bool := decide (nsIn K mainGlobals (SN x) = some (some (.ref a)))
def callB (K : Frag) (p : Pkg) (q : String × Nat × List LV) : Bool := p.defs.any fun d => d.key == q.1 && d.fn == q.1 && d.cls.isNone && gloB K q.1 (adr K d) && keepIn K (.ref (adr K d)) && fillB K d q.2.1 [] q.2.2
def calkB (K : Frag) (p : Pkg) (q : String × Nat × List String × List LV) : Bool := p.defs.any fun d => d.key == q.1 && d.fn == q.1 && d.cls.isNone && gloB K q.1 (adr K d) && keepIn K (.ref (adr K d)) && fillB K d q.2.1 q.2.2.1 q.2.2.2
def newB (K : Frag) (p : Pkg) (q : String × Nat × List LV) : Bool := p.defs.any fun d => d.key == q.1 ++ ".__init__" && d.fn == "__init__" && d.cls == some q.1 && p.classes.contains q.1 && gloB K q.1 (He.ga K (SN q.1)) && (He.Fa.mkr (SN q.1)).ok K && fillB K d (q.2.1 + 1) [] q.2.2 && decide (adr K d = He.ma K (He.ga K (SN q.1)) "__init__")
def mthC (K : Frag) (p : Pkg) (q : String × Nat × List LV) : Bool := p.classes.all fun c => p.defs.all (fun d => d.key != c ++ "." ++ q.1) || p.defs.any fun d => d.key == c ++ "." ++ q.1 && d.fn == q.1 && d.cls == some c && (He.Fa.meth (SN c) (SN q.1)).ok K && fillB K d (q.2.1 + 1) [] q.2.2 && decide (adr K d = He.ma K (He.ga K (SN c)) (SN q.1))
def dunC (K : Frag) (p : Pkg) (m : String) : Bool := p.classes.all fun c => p.defs.all (fun d => d.key != c ++ "." ++ m) || p.defs.any fun d => d.key == c ++ "." ++ m && d.fn == m && d.cls == some c &&
  selfFirst K (He.ga K (SN c)) && decide (findIn K (.ref (He.ga K (SN c))) (SN m) = some (some (.ref (adr K d)))) && isFn K (.ref (adr K d)) && fillB K d 2 [] []
def creadB (K : Frag) (C : Addr) : Bool := readsIn K C (.type "type") && decide (specialIn K (.ref C) "__getattribute__" = some (some (.builtin "type.__getattribute__")))
def sclC (K : Frag) (p : Pkg) (q : String × String × Nat × List LV) : Bool := p.defs.any fun d => d.key == q.1 ++ "." ++ q.2.1 && gloB K q.1 (He.ga K (SN q.1)) && creadB K (He.ga K (SN q.1)) && He5.wrapB K (He.ga K (SN q.1)) "staticmethod" "staticmethod.__get__" (SN q.2.1) &&
  decide (adr K d = He5.wf K (He.ga K (SN q.1)) "staticmethod" (SN q.2.1)) && keepIn K (.ref (adr K d)) && fillB K d q.2.2.1 [] q.2.2.2
def pkgB (K : Frag) (p : Pkg) : Bool :=
  p.defs.all (defB K p.sig.to) && p.sig.call.all (callB K p) && p.sig.calk.all (calkB K p) && p.sig.new.all (newB K p) && p.sig.mth.all (mthC K p) &&
  p.classes.all (fun c => (He.Fa.cls (SN c)).ok K && p.sig.fld.all fun f => (He.Fa.noat (SN c) (SN f)).ok K) &&
  p.globs.all (fun q => match nsIn K mainGlobals (SN q.1) with | some (some u) => conB K q.2 u | _ => false) &&
  (bltB ++ bltT).all (fun x => decide (nsIn K mainGlobals (SN x) = some none)) && p.sig.dun.all (dunC K p) && p.sig.scl.all (sclC K p)

theorem mem_lk : ∀ {l : List (String × LV)} {x : String} {v : LV}, l.lookup x = some v → (x, v) ∈ l
  | [], _, _, h => by cases h
  | (y, u) :: r, x, v, h => by
    rw [List.lookup_cons] at h
    cases e : x == y with
    | true =>
      rw [e] at h
      cases h
      rw [beq_iff_eq.mp e]
      exact List.mem_cons_self
    | false =>
      rw [e] at h
      exact List.mem_cons_of_mem _ (mem_lk h)
section
variable {K : Frag} {cl : CA} {P : Program} {w : World} {mg : Str → Option Value} {base : Heap} {k : Nat} {p : Pkg} {C : Orc}
theorem rvs_len {ρ : List Addr} {H : Hp} {ds : List LV} {dv : List V} (r : RVs K cl ρ H ds dv) : dv.length = ds.length := r.len
theorem fill_ok {d : DefC} {n : Nat} {ds : List LV} (h : fillB K d n [] ds = true) : Fill K cl (fnAt K (adr K d)) (SNs d.ps) ds := by
  unfold fillB at h
  split at h
  · rename_i ps dV e
    simp only [Bool.and_eq_true, decide_eq_true_eq, beq_iff_eq] at h
    obtain ⟨⟨rfl, hc⟩, hl⟩ := h
    obtain ⟨dv, r, q⟩ := cons_ok hc
    refine ⟨dv, dV, r, fun s us X hl' => BindsTo.of_looks fun M => ?_, q⟩
    have hu : us.length = n := by
      rw [List.length_append] at hl'
      have : (SNs d.ps).length = d.ps.length := List.length_map _
      simp at hl
      omega
    have := bind_gen (M := M) (us := us) (ws := []) X e hu rfl
    simpa [SNs] using this
  · cases h
theorem kfill_ok {d : DefC} {n : Nat} {ks : List String} {ds : List LV} (h : fillB K d n ks ds = true) : KFill K cl (fnAt K (adr K d)) (SNs d.ps) n ks ds := by
  unfold fillB at h
  split at h
  · rename_i ps dV e
    simp only [Bool.and_eq_true, decide_eq_true_eq, beq_iff_eq] at h
    obtain ⟨⟨rfl, hc⟩, hl⟩ := h
    obtain ⟨dv, r, q⟩ := cons_ok hc
    exact ⟨dv, dV, r, ⟨fun s us ws X hu hw => BindsTo.of_looks fun M => bind_gen (M := M) X e hu hw, fun r1 r2 => (r1.append r2).append r⟩, q⟩
  · cases h
/-- all defs keep their promises, as C says them -/
def AllOk (P : Program) (w : World) (K : Frag) (mg : Str → Option Value) (base : Heap) (k : Nat) (p : Pkg) (C : Orc) : Prop :=
  ∀ d ∈ p.defs, FnOk P w K mg base CX0 k (adr K d) (fnAt K (adr K d)) (SNs d.ps) (spS K (p.cl K) (C d.key))
theorem fc_of (hp : pkgB K p = true) (X : K.In base) (G : base.Ns mainGlobals mg) (A : AllOk P w K mg base k p C) (hC : ∀ key, (∀ d ∈ p.defs, d.key ≠ key) → ∀ vs L, C key vs L = .stuck) : FcP P w K mg base k (p.cl K) p.tbl C p.sig.to := by
  unfold pkgB at hp
  simp only [Bool.and_eq_true, List.all_eq_true] at hp
  obtain ⟨⟨⟨⟨⟨⟨⟨⟨⟨h1, h2⟩, h3⟩, h4⟩, h5⟩, h6⟩, h7⟩, h8⟩, h9⟩, h10⟩ := hp
  have hcl : ∀ c ca, p.cl K c = some ca → c ∈ p.classes ∧ ca = He.ga K (SN c) := fun c ca e => by
    unfold Pkg.cl at e
    split at e
    · rename_i hc
      cases e
      exact ⟨by simpa using hc, rfl⟩
    · cases e
  refine ⟨fun x v e => ?_, fun x hx => ?_, fun f n ds e => ?_, fun f n ks ds e => ?_, fun c n ds e => ?_, fun m n ds e c ca hc => ?_, fun m e c ca hc => ?_, fun c m n ds e => ?_, fun c ca hc => ?_, fun f e c ca hc => ?_⟩
  · have hm : (x, v) ∈ p.globs := by
      have := e
      exact mem_lk this
    have q := h7 (x, v) hm
    simp only at q
    split at q
    · rename_i u hu
      obtain ⟨y, r, rv⟩ := con_ok q
      exact ⟨u, y, mg_of X G hu, r, rv⟩
    · cases q
  · have := h8 x (by simpa [List.mem_append] using hx)
    exact mg_none_of X G (of_decide_eq_true this)
  · obtain ⟨q, hq, e⟩ := List.any_eq_true.mp e
    simp only [Bool.and_eq_true, beq_iff_eq, decide_eq_true_eq] at e
    obtain ⟨⟨rfl, rfl⟩, rfl⟩ := e
    obtain ⟨d, hd, e⟩ := List.any_eq_true.mp (h2 q hq)
    simp only [Bool.and_eq_true, beq_iff_eq, decide_eq_true_eq, Option.isNone_iff_eq_none, gloB] at e
    obtain ⟨⟨⟨⟨⟨e1, e2⟩, e3⟩, e4⟩, e5⟩, e6⟩ := e
    have F := A d hd
    rw [e1] at F
    exact ⟨adr K d, _, _, mg_of X G e4, e5, F, fill_ok e6⟩
  · obtain ⟨q, hq, e⟩ := List.any_eq_true.mp e
    simp only [Bool.and_eq_true, beq_iff_eq, decide_eq_true_eq] at e
    obtain ⟨⟨⟨rfl, rfl⟩, rfl⟩, rfl⟩ := e
    obtain ⟨d, hd, e⟩ := List.any_eq_true.mp (h3 q hq)
    simp only [Bool.and_eq_true, beq_iff_eq, decide_eq_true_eq, Option.isNone_iff_eq_none, gloB] at e
    obtain ⟨⟨⟨⟨⟨e1, e2⟩, e3⟩, e4⟩, e5⟩, e6⟩ := e
    have F := A d hd
    rw [e1] at F
    exact ⟨adr K d, _, _, mg_of X G e4, e5, F, kfill_ok e6⟩
  · obtain ⟨q, hq, e⟩ := List.any_eq_true.mp e
    simp only [Bool.and_eq_true, beq_iff_eq, decide_eq_true_eq] at e
    obtain ⟨⟨rfl, rfl⟩, rfl⟩ := e
    obtain ⟨d, hd, e⟩ := List.any_eq_true.mp (h4 q hq)
    simp only [Bool.and_eq_true, beq_iff_eq, decide_eq_true_eq, gloB] at e
    obtain ⟨⟨⟨⟨⟨⟨⟨e1, e2⟩, e3⟩, e4⟩, e5⟩, e6⟩, e7⟩, ea⟩ := e
    have F := A d hd
    rw [e1] at F
    have M := He.mkr_ok e6
    refine ⟨He.ga K (SN q.1), adr K d, _, _, ?_, mg_of X G e5, ?_, F, fill_ok e7⟩
    · unfold Pkg.cl; rw [if_pos e4]
    · rw [ea]; exact M
  · obtain ⟨q, hq, e⟩ := List.any_eq_true.mp e
    simp only [Bool.and_eq_true, beq_iff_eq, decide_eq_true_eq] at e
    obtain ⟨⟨rfl, rfl⟩, rfl⟩ := e
    obtain ⟨hc1, rfl⟩ := hcl c ca hc
    have := List.all_eq_true.mp (h5 q hq) c hc1
    rw [Bool.or_eq_true] at this
    rcases this with e | e
    · refine .inl (hC _ fun d hd => ?_)
      have := List.all_eq_true.mp e d hd
      simpa using this
    · right
      obtain ⟨d, hd, e⟩ := List.any_eq_true.mp e
      simp only [Bool.and_eq_true, beq_iff_eq, decide_eq_true_eq] at e
      obtain ⟨⟨⟨⟨⟨e1, e2⟩, e3⟩, e4⟩, e5⟩, ea⟩ := e
      have F := A d hd
      rw [e1] at F
      have M := He.meth_ok e4
      refine ⟨adr K d, _, _, ?_, F, fill_ok e5⟩
      rw [ea]; exact M
  · have hq : m ∈ p.sig.dun := by
      have : p.sig.dun.contains m = true := e
      simpa using this
    obtain ⟨hc1, rfl⟩ := hcl c ca hc
    have := List.all_eq_true.mp (h9 m hq) c hc1
    rw [Bool.or_eq_true] at this
    rcases this with e | e
    · refine .inl (hC _ fun d hd => ?_)
      have := List.all_eq_true.mp e d hd
      simpa using this
    · right
      obtain ⟨d, hd, e⟩ := List.any_eq_true.mp e
      simp only [Bool.and_eq_true, beq_iff_eq, decide_eq_true_eq] at e
      obtain ⟨⟨⟨⟨⟨⟨e1, e2⟩, e3⟩, e4⟩, e5⟩, e6⟩, e7⟩ := e
      have F := A d hd
      rw [e1] at F
      exact ⟨adr K d, _, _, ⟨e4, e5, e6⟩, F, fill_ok e7⟩
  · obtain ⟨q, hq, e⟩ := List.any_eq_true.mp e
    simp only [Bool.and_eq_true, beq_iff_eq, decide_eq_true_eq] at e
    obtain ⟨⟨⟨rfl, rfl⟩, rfl⟩, rfl⟩ := e
    obtain ⟨d, hd, e⟩ := List.any_eq_true.mp (h10 q hq)
    simp only [Bool.and_eq_true, beq_iff_eq, decide_eq_true_eq, gloB, creadB] at e
    obtain ⟨⟨⟨⟨⟨⟨e1, e2⟩, e3, e3'⟩, e4⟩, e5⟩, e6⟩, e7⟩ := e
    have F := A d hd
    rw [e1] at F
    obtain ⟨w1, rest, w2⟩ := He5.wrapB_ok e4
    exact ⟨_, adr K d, _, _, mg_of X G e2, ⟨⟨e3, e3'⟩, e6, _, w1, rest, by rw [e5]; exact w2⟩, F, fill_ok e7⟩
  · obtain ⟨hc1, rfl⟩ := hcl c ca hc
    exact He.cls_ok (h6 c hc1).1
  · obtain ⟨hc1, rfl⟩ := hcl c ca hc
    have e' : f ∈ p.sig.fld := by
      have : p.sig.fld.contains f = true := e
      simpa using this
    exact He.noat_ok ((h6 c hc1).2 f e')

theorem start_rs {ρ : List Addr} {H : Hp} {args : List LV} {vs : List V} {N : List Str} (r : RVs K cl ρ H args vs) : RS K cl ρ H (args.map some ++ List.replicate (N.length - args.length) none) (L2.start N vs) := by
  unfold L2.start
  refine ⟨by simp [r.len], fun i v h => ?_⟩
  by_cases hi : i < args.length
  · rw [List.getElem?_append_left (by simpa using hi), List.getElem?_map] at h
    cases ha : args[i]? with
    | none => rw [ha] at h; cases h
    | some x =>
      rw [ha] at h
      cases h
      obtain ⟨v', h1, h2⟩ := r.get ha
      refine ⟨v', ?_, h2⟩
      rw [List.getElem?_append_left (by rw [List.length_map, r.len]; exact hi), List.getElem?_map, h1]
      rfl
  · rw [List.getElem?_append_right (by simpa using hi), List.getElem?_replicate] at h
    split at h <;> cases h
theorem fn_ev {d : DefC} {S : Sig} {cl : CA} {T : Tbl} (hd : defB K S d = true) (F : FcP P w K mg base k cl T C S) : FnOk P w K mg base CX0 (k + 2) (adr K d) (fnAt K (adr K d)) (SNs d.ps) (spS K cl (evF T C d.F)) := by
  unfold defB at hd
  split at hd
  rotate_left
  · cases hd
  rename_i oc od fd osl lk
  split at hd
  rotate_left
  · cases hd
  rename_i b hb
  simp only [Bool.and_eq_true, decide_eq_true_eq, beq_iff_eq, List.isEmpty_iff] at hd
  obtain ⟨⟨⟨⟨⟨⟨⟨h1, h2⟩, h3⟩, h4⟩, h5⟩, h6⟩, h7⟩, h8⟩ := hd
  have efd : fnAt K (adr K d) = fd := by unfold fnAt; rw [lk]
  rw [efd]
  obtain ⟨n1, n2, n3, n4, n5, n6, n7, n8, n9, n10, n11, n12, n13, n14, n15⟩ := fd
  simp only at h1 h2 h3 h6 h7 h8 hb
  subst h6 h7 h8 hb
  have SC := C8.fnScope_by h2
  have hlen : ∀ vs H Q E, spS K cl (evF T C d.F) vs H Q E → vs.length = (SNs d.ps).length := by
    rintro vs H Q E ⟨ρ, args, L, em, rv, r, L', e, _⟩
    rw [rv.len]
    unfold evF at e
    split at e
    · rename_i ha
      rw [ha, h4]; exact (List.length_map _).symm
    · cases e
  refine fn_of lk h1 SC hlen fun A outer s H vs Q E hr hsp => ?_
  have g : Good (cxOf CX0 P w K mg base (SNs d.N) n2 n5 (adr K d) n13 A outer s H E).nox (SNs d.N) n5 n5 k cl T C S := ⟨rfl, rfl, SC.nd, rfl, hr, F, rfl, fun x hx => ⟨loc_of hx, .inl rfl⟩⟩
  refine ⟨rdSs K cl T C d.F.body, PSs.nox (snd_ss d.F.body g h3), ?_⟩
  · obtain ⟨ρ, args, L, em, rv, r, L', e, q⟩ := hsp
    unfold evF at e
    split at e
    rotate_left
    · cases e
    rename_i ha
    have hs : d.F.slots = (SNs d.N).length := by rw [h5]; exact (List.length_map _).symm
    rw [hs] at e
    refine ⟨ρ, _, L, em, start_rs rv, ?_⟩
    split at e
    · rename_i s1 L1 he
      rw [he]
      cases e
      exact fun ρ' H' σ' n em' _ => q ρ' H' _ n em' rfl
    · rename_i v L1 he
      rw [he]
      cases e
      exact fun ρ' H' v' n em' rv' => q ρ' H' v' n em' rv'
    · cases e

/-- the summaries, met up to a depth -/
def upTo (dep : String → Nat) (S : Orc) (n : Nat) : Orc := fun key vs L => if dep key ≤ n then S key vs L else .stuck
theorem all_ok (hp : pkgB K p = true) (X : K.In base) (G : base.Ns mainGlobals mg) {dep : String → Nat} {S : Orc} (hS : ∀ key, (∀ d ∈ p.defs, d.key ≠ key) → ∀ vs L, S key vs L = .stuck) (h0 : ∀ d ∈ p.defs, 0 < dep d.key)
    (hm : ∀ n, ∀ d ∈ p.defs, dep d.key = n + 1 → Meets (evF p.tbl (upTo dep S n) d.F) (S d.key)) : ∀ n, AllOk P w K mg base (2 * n) p (upTo dep S n) := by
  intro n
  induction n with
  | zero =>
    intro d hd
    have hz : ∀ vs H Q E, ¬ spS K (p.cl K) (upTo dep S 0 d.key) vs H Q E := by
      rintro vs H Q E ⟨ρ, args, L, em, rv, r, L', e, _⟩
      unfold upTo at e
      rw [if_neg (by have := h0 d hd; omega)] at e
      cases e
    exact ⟨fun vs H Q E h => (hz _ _ _ _ h).elim, fun A outer s H args us vs Q E hr he hb hv h => (hz _ _ _ _ h).elim⟩
  | succ n ih =>
    have F := fc_of hp X G ih fun key hk vs L => by unfold upTo; split <;> first | rfl | exact hS key hk vs L
    intro d hd
    by_cases hdp : dep d.key = n + 1
    · have hdB : defB K p.sig.to d = true := by
        unfold pkgB at hp
        simp only [Bool.and_eq_true, List.all_eq_true] at hp
        exact hp.1.1.1.1.1.1.1.1.1 d hd
      refine (fn_ev hdB F).imp fun vs H Q E h => (hm n d hd hdp).sp ?_
      have e : upTo dep S (n + 1) d.key = S d.key := by funext vs L; unfold upTo; rw [if_pos (by omega)]
      rwa [e] at h
    · by_cases hlt : dep d.key ≤ n
      · have e : upTo dep S (n + 1) d.key = upTo dep S n d.key := by funext vs L; unfold upTo; rw [if_pos (by omega), if_pos hlt]
        rw [e]
        exact (ih d hd).mono (by omega)
      · have hz : ∀ vs H Q E, ¬ spS K (p.cl K) (upTo dep S (n + 1) d.key) vs H Q E := by
          rintro vs H Q E ⟨ρ, args, L, em, rv, r, L', e, _⟩
          unfold upTo at e
          rw [if_neg (by omega)] at e
          cases e
        exact ⟨fun vs H Q E h => (hz _ _ _ _ h).elim, fun A outer s H args us vs Q E hr he hb hv h => (hz _ _ _ _ h).elim⟩
end
end G
set_option Elab.async false
set_option linter.all false
set_option maxRecDepth 100000
set_option maxHeartbeats 4000000
/-! G12: a law's end. -/
namespace G
open PySem PySem.Spec PyProof.Rows L2 PySem.W
/-- the law's promise: the script is a list that nobody writes -/
def lawSp (m : Nat) (K : Frag) : Sp := fun vs H Q _ => ∃ (a : Addr) (ns : List Int), ns.length ≤ m ∧ vs = [.ref a] ∧ FzL K [] H a (ns.map V.int) ∧ ∀ H', Q (.bl true) H'
theorem law_sp {m : Nat} {K : Frag} {H : Hp} {a : Addr} {ns : List Int} (hl : ns.length ≤ m) (hO : Only H) (hS : SqL K H a (ns.map V.int)) : lawSp m K [.ref a] H (fun v _ => v = .bl true) fun _ _ _ => False := by
  refine ⟨a, ns, hl, rfl, ?_, fun _ => rfl⟩
  rcases hS with (h | ⟨o, h⟩) | ⟨o, its, n, h1, h2, h3, h4, h5, h6⟩
  · exfalso
    rcases hO a with e | ⟨_, _, e⟩ <;> (rw [h] at e; cases e)
  · exact .inr (.inl ⟨o, h⟩)
  · obtain ⟨c, d, dt, sl⟩ := o
    cases h2; cases h3; cases h4
    exact .inr (.inr ⟨its, n, sl, h1, h5, h6⟩)
def lawB (K : Frag) (p : Pkg) (d : DefC) (x : String) : Bool := p.defs.any (fun e => e.key == d.key && e.fn == d.fn && e.cls == d.cls && decide (e.ps = d.ps)) && gloB K "law" (adr K d) && decide (fillIn [] (fnAt K (adr K d)) 1 [] = some ([SN x], [])) && decide (d.ps = [x])
theorem law_end {P : Program} {w : World} {K : Frag} {mg : Str → Option Value} {h : Heap} {p : Pkg} {d : DefC} {x : String} {fa : Addr} {m n : Nat} {dep : String → Nat} {S : Orc}
    (hp : pkgB K p = true) (hl : lawB K p d x = true) (KX : K.In h) (G : h.Ns mainGlobals mg) (hm : mg (SN "law") = some (.ref fa))
    (hS : ∀ key, (∀ d ∈ p.defs, d.key ≠ key) → ∀ vs L, S key vs L = .stuck) (h0 : ∀ d ∈ p.defs, 0 < dep d.key) (hd : d ∈ p.defs) (hn : dep d.key ≤ n) (hn2 : n ≤ 100)
    (hM : ∀ n, ∀ d ∈ p.defs, dep d.key = n + 1 → Meets (evF p.tbl (upTo dep S n) d.F) (S d.key))
    (hlaw : ∀ ns : List Int, ns.length ≤ m → ∃ L, S d.key [.fl (ns.map .int)] [] = .ok (.bl true) L) :
    ∃ fd : FuncData, (∀ (s : Shared) (u : Value), BindsTo s fd ⟨[u], []⟩ [(SN x, u)]) ∧ ∀ base : Heap, K.In base → base.Ns mainGlobals mg → FnOk P w K mg base L2.CX0 200 fa fd [SN x] (lawSp m K) := by
  unfold lawB at hl
  simp only [Bool.and_eq_true, decide_eq_true_eq, gloB] at hl
  obtain ⟨⟨⟨_, h1⟩, h2⟩, h3⟩ := hl
  have e := mg_of KX G h1
  rw [hm] at e
  cases e
  refine ⟨fnAt K (adr K d), fun s u => BindsTo.of_looks fun M => ?_, fun base KB GB => ?_⟩
  · have := bind_gen (K := []) (M := M) (h := s.heap) (us := [u]) (ws := []) (fun a o e => by cases e) h2 rfl rfl
    simpa using this
  · have A := all_ok (P := P) (w := w) hp KB GB hS h0 hM n d hd
    have hps : SNs d.ps = [SN x] := by rw [h3]; rfl
    rw [hps] at A
    refine (A.mono (by omega)).imp ?_
    rintro vs H Q E ⟨a, ns, hlen, rfl, hf, hQ⟩
    have em : Em K (p.cl K) [] [] H := ⟨rfl, List.nodup_nil, fun i o a e _ => by simp at e⟩
    have rv : ∀ ns : List Int, RVs K (p.cl K) [] H (ns.map .int) (ns.map V.int) := fun ns => RVs.ints ns
    obtain ⟨L, hL⟩ := hlaw ns hlen
    refine ⟨[], [.fl (ns.map .int)], [], em, ⟨_, _, rfl, ⟨a, _, rfl, hf, rv ns⟩, rfl⟩, .bl true, L, ?_, fun ρ' H' v' _ _ r => ?_⟩
    · unfold upTo
      rw [if_pos hn]
      exact hL
    · rw [show v' = .bl true from r]
      exact hQ H'
end G
set_option Elab.async false
set_option linter.all false
set_option maxRecDepth 100000
set_option maxHeartbeats 4000000
/-! G13: plain tools: what a run of the evaluator reaches; loops; the defs that every law has. -/
namespace G
open PySem
abbrev SP := Sl → LH → Prop
def SWp (r : SR) (N B K : SP) (R : LV → LH → Prop) : Prop := match r with
  | .nx s L => N s L | .bk s L => B s L | .ct s L => K s L | .rt v L => R v L | .stuck => False
def RWp {α : Type} (r : R α) (Q : α → LH → Prop) : Prop := match r with | .ok a L => Q a L | .stuck => False
section
variable {N B K : SP} {R' : LV → LH → Prop} {α β : Type}
@[simp] theorem SWp_nx (s L) : SWp (.nx s L) N B K R' = N s L := rfl
@[simp] theorem SWp_bk (s L) : SWp (.bk s L) N B K R' = B s L := rfl
@[simp] theorem SWp_ct (s L) : SWp (.ct s L) N B K R' = K s L := rfl
@[simp] theorem SWp_rt (v L) : SWp (.rt v L) N B K R' = R' v L := rfl
@[simp] theorem SWp_stuck : SWp .stuck N B K R' = False := rfl
@[simp] theorem SWp_bind (r : SR) (f : Sl → LH → SR) : SWp (r.bind f) N B K R' = SWp r (fun s L => SWp (f s L) N B K R') B K R' := by cases r <;> rfl
@[simp] theorem SWp_toS (r : R α) (f : α → LH → SR) : SWp (r.toS f) N B K R' = RWp r (fun a L => SWp (f a L) N B K R') := by cases r <;> rfl
@[simp] theorem RWp_ok (a : α) (L) (Q : α → LH → Prop) : RWp (.ok a L) Q = Q a L := rfl
@[simp] theorem RWp_stuck (Q : α → LH → Prop) : RWp (.stuck : R α) Q = False := rfl
@[simp] theorem RWp_bind (r : R α) (f : α → LH → R β) (Q : β → LH → Prop) : RWp (r.bind f) Q = RWp r (fun a L => RWp (f a L) Q) := by cases r <;> rfl
@[simp] theorem RWp_of (o : Option α) (L) (Q : α → LH → Prop) : RWp (R.of o L) Q = ∃ a, o = some a ∧ Q a L := by cases o <;> simp [R.of]
@[simp] theorem RWp_ite (c : Prop) [Decidable c] (a b : R α) (Q : α → LH → Prop) : RWp (if c then a else b) Q = if c then RWp a Q else RWp b Q := by split <;> rfl
@[simp] theorem SWp_ite (c : Prop) [Decidable c] (a b : SR) : SWp (if c then a else b) N B K R' = if c then SWp a N B K R' else SWp b N B K R' := by split <;> rfl
theorem SWp.mono {r : SR} {N' B' K' : SP} {R'' : LV → LH → Prop} (h : SWp r N B K R') (h1 : ∀ s L, N s L → N' s L) (h2 : ∀ s L, B s L → B' s L) (h3 : ∀ s L, K s L → K' s L) (h4 : ∀ v L, R' v L → R'' v L) : SWp r N' B' K' R'' := by
  cases r with
  | nx s L => exact h1 s L h
  | bk s L => exact h2 s L h
  | ct s L => exact h3 s L h
  | rt s L => exact h4 s L h
  | stuck => exact h
theorem RWp.mono {r : R α} {Q Q' : α → LH → Prop} (h : RWp r Q) (i : ∀ a L, Q a L → Q' a L) : RWp r Q' := by
  cases r with
  | ok a L => exact i a L h
  | stuck => exact h
theorem RWp.ex {r : R α} {Q : α → LH → Prop} (h : RWp r Q) : ∃ a L, r = .ok a L ∧ Q a L := by
  cases r with
  | ok a L => exact ⟨a, L, rfl, h⟩
  | stuck => exact h.elim
theorem RWp_evF {T : Tbl} {C : Orc} {f : Fn} {vs : List LV} {L : LH} {Q : LV → LH → Prop} (ha : vs.length = f.arity) (h : SWp (evSs T C f.body (vs.map some ++ List.replicate (f.slots - vs.length) none) L) (fun _ L => Q .non L) (fun _ _ => False) (fun _ _ => False) Q) : RWp (evF T C f vs L) Q := by
  unfold evF
  rw [if_pos ha]
  cases hr : evSs T C f.body (vs.map some ++ List.replicate (f.slots - vs.length) none) L with
  | nx s L => rw [hr] at h; exact h
  | bk s L => rw [hr] at h; exact h
  | ct s L => rw [hr] at h; exact h
  | rt s L => rw [hr] at h; exact h
  | stuck => rw [hr] at h; exact h
abbrev No : SP := fun _ _ => False
/-- a for loop, by an invariant of the turn -/
theorem forL_go {f : LV → Sl → LH → SR} {c : Option (Nat × List LV)} {R' : LV → LH → Prop} (I : Nat → SP) (n : Nat) (hc : ∀ j s L, I j s L → chkOk c L = true) : ∀ (xs : List LV) (j : Nat), j + xs.length = n → (∀ i x, xs[i]? = some x → ∀ s L, I (j + i) s L → SWp (f x s L) (I (j + i + 1)) (I n) (I (j + i + 1)) R') →
    ∀ s L, I j s L → SWp (forL f c xs s L) (I n) No No R'
  | [], j, hj, step, s, L, h => by
    simp at hj
    subst hj
    simp only [forL, hc _ _ _ h, if_true, SWp_nx]
    exact h
  | x :: r, j, hj, step, s, L, h => by
    simp only [forL, hc _ _ _ h, if_true]
    have q := step 0 x rfl s L h
    have rest : ∀ s' L', I (j + 0 + 1) s' L' → SWp (forL f c r s' L') (I n) No No R' := fun s' L' h' => by
      refine forL_go I n hc r (j + 1) (by simp at hj; omega) (fun i y hy s L hI => ?_) s' L' h'
      have := step (i + 1) y (by simpa using hy) s L (by rw [show j + (i + 1) = j + 1 + i from by omega]; exact hI)
      rw [show j + (i + 1) = j + 1 + i from by omega] at this
      exact this
    cases hf : f x s L with
    | nx s' L' => rw [hf] at q; exact rest s' L' q
    | ct s' L' => rw [hf] at q; exact rest s' L' q
    | bk s' L' => rw [hf] at q; exact q
    | rt v L' => rw [hf] at q; exact q
    | stuck => rw [hf] at q; exact q
theorem forL_ix {f : LV → Sl → LH → SR} {c : Option (Nat × List LV)} {xs : List LV} {R' : LV → LH → Prop} (I : Nat → SP) (hc : ∀ j s L, I j s L → chkOk c L = true) (step : ∀ i x, xs[i]? = some x → ∀ s L, I i s L → SWp (f x s L) (I (i + 1)) (I xs.length) (I (i + 1)) R')
    {s : Sl} {L : LH} (h : I 0 s L) : SWp (forL f c xs s L) (I xs.length) No No R' :=
  forL_go I xs.length hc xs 0 (Nat.zero_add _) (fun i x hx s L hI => by rw [Nat.zero_add] at hI ⊢; exact step i x hx s L hI) s L h
/-- a comprehension: the items that it keeps -/
theorem cprL_go {f : LV → LH → R (Option LV)} {c : Option (Nat × List LV)} {d : Nat} (g : LV → Option LV) : ∀ (xs : List LV) (acc : List LV) (L : LH), (∀ x ∈ xs, ∀ acc', f x (L.set d (.lst acc')) = .ok (g x) (L.set d (.lst acc'))) → d < L.length → (∀ acc', chkOk c (L.set d (.lst acc')) = true) →
    acc.length + xs.length ≤ big → cprL f c d xs (L.set d (.lst acc)) = .ok () (L.set d (.lst (acc ++ xs.filterMap g)))
  | [], acc, L, hf, hd, hc, hb => by
    simp only [cprL, hc, if_true, List.filterMap_nil, List.append_nil]
  | x :: r, acc, L, hf, hd, hc, hb => by
    simp only [cprL, hc, if_true, hf x List.mem_cons_self]
    cases hg : g x with
    | none =>
      simp only
      rw [cprL_go g r acc L (fun y hy => hf y (List.mem_cons_of_mem _ hy)) hd hc (by simp at hb; omega)]
      simp [List.filterMap_cons, hg]
    | some y =>
      simp only [List.getElem?_set_self hd]
      rw [if_pos (by simp at hb; omega), List.set_set]
      rw [cprL_go g r (acc ++ [y]) L (fun y hy => hf y (List.mem_cons_of_mem _ hy)) hd hc (by simp at hb ⊢; omega)]
      simp [List.filterMap_cons, hg]
end
@[simp] theorem get_last {L : LH} {a : LO} : (L ++ [a])[L.length]? = some a := by simp
@[simp] theorem set_last {L : LH} {a b : LO} : (L ++ [a]).set L.length b = L ++ [b] := by simp

/-! ### the evaluator, a step at a time (loops' bodies stay folded) -/
section
variable {T : Tbl} {C : Orc} {s : Sl} {L : LH}
def bodyF (T : Tbl) (C : Orc) (t : Tg) (b : List Sm) (x : LV) (s : Sl) (L : LH) : SR := (evG T C t x s L).toS fun s' L' => evSs T C b s' L'
def cprB (T : Tbl) (C : Orc) (elt : Ex) (tg : Tg) (cond : Option Ex) (own : List Nat) (s : Sl) (x : LV) (L : LH) : R (Option LV) := (evG T C tg x (wipeL s own) L).bind fun s' L' => (evC T C cond s' L').bind fun b L2 => if b = true then (evE T C elt s' L2).bind fun y L3 => .ok (some y) L3 else .ok none L2
@[simp] theorem evE_var (i : Nat) : evE T C (.var i) s L = .of (sget s i) L := by simp [evE]
@[simp] theorem evE_con (v : LV) : evE T C (.con v) s L = .ok v L := by simp [evE]
@[simp] theorem evE_glo (x : String) : evE T C (.glo x) s L = .of (T.glob x) L := by simp [evE]
@[simp] theorem evE_bin (op : BOp) (a b : Ex) : evE T C (.bin op a b) s L = (evE T C a s L).bind fun x L1 => (evE T C b s L1).bind fun y L2 => binO C op x y L2 := by simp [evE]
@[simp] theorem evE_cmp (op : COp) (a b : Ex) : evE T C (.cmp op a b) s L = (evE T C a s L).bind fun x L1 => (evE T C b s L1).bind fun y L2 => cmpO C op x y L2 := by simp [evE]
@[simp] theorem evE_chn (o p : COp) (a b c : Ex) : evE T C (.chn o p a b c) s L = (evE T C a s L).bind fun x L1 => (evE T C b s L1).bind fun y L2 => (R.of (cmpV o x y L2) L2).bind fun k L2 =>
      if k = true then (evE T C c s L2).bind fun z L3 => .of ((cmpV p y z L3).map .bl) L3 else .ok (.bl false) L2 := by simp [evE]
@[simp] theorem evE_neg (a : Ex) : evE T C (.neg a) s L = (evE T C a s L).bind fun x L1 => match x with | .int i => .ok (.int (-i)) L1 | _ => .stuck := by simp only [evE] <;> rfl
@[simp] theorem evE_ite (c a b : Ex) : evE T C (.ite c a b) s L = ((evE T C c s L).bind asB).bind fun k L1 => if k = true then evE T C a s L1 else evE T C b s L1 := by
  simp only [evE]
  cases evE T C c s L with
  | stuck => rfl
  | ok v L1 => cases v with
    | bl b => cases b <;> rfl
    | _ => rfl
@[simp] theorem evE_and (a b : Ex) : evE T C (.and a b) s L = ((evE T C a s L).bind asB).bind fun k L1 => if k = true then ((evE T C b s L1).bind asB).bind fun k L2 => .ok (.bl k) L2 else .ok (.bl false) L1 := by
  simp only [evE]
  cases evE T C a s L with
  | stuck => rfl
  | ok v L1 => cases v with
    | bl k => cases k with
      | false => rfl
      | true =>
        simp only [R.bind_ok, asB, if_true]
        cases evE T C b s L1 with
        | stuck => rfl
        | ok v L1 => cases v <;> rfl
    | _ => rfl
@[simp] theorem evE_or (a b : Ex) : evE T C (.or a b) s L = ((evE T C a s L).bind asB).bind fun k L1 => if k = true then .ok (.bl true) L1 else ((evE T C b s L1).bind asB).bind fun k L2 => .ok (.bl k) L2 := by
  simp only [evE]
  cases evE T C a s L with
  | stuck => rfl
  | ok v L1 => cases v with
    | bl k => cases k with
      | true => rfl
      | false =>
        simp only [R.bind_ok, asB, Bool.false_eq_true, if_false]
        cases evE T C b s L1 with
        | stuck => rfl
        | ok v L1 => cases v <;> rfl
    | _ => rfl
@[simp] theorem evE_not (a : Ex) : evE T C (.not a) s L = ((evE T C a s L).bind asB).bind fun k L1 => .ok (.bl (!k)) L1 := by
  simp only [evE]
  cases evE T C a s L with
  | stuck => rfl
  | ok v L1 => cases v <;> rfl
@[simp] theorem evE_tup (xs : List Ex) : evE T C (.tup xs) s L = (evEs T C xs s L).bind fun vs L1 => if vs.length ≤ big then .ok (.tup vs) L1 else .stuck := by simp [evE]
@[simp] theorem evE_lst (xs : List Ex) : evE T C (.lst xs) s L = (evEs T C xs s L).bind fun vs L1 => if vs.length ≤ big then .ok (.ref L1.length) (L1 ++ [.lst vs]) else .stuck := by simp [evE]
@[simp] theorem evE_call (f : String) (xs : List Ex) (ds : List LV) : evE T C (.call f xs ds) s L = (evEs T C xs s L).bind fun vs L1 => C f (vs ++ ds) L1 := by simp [evE]
@[simp] theorem evE_calk (f : String) (xs : List Ex) (ks : List String) (zs : List Ex) (ds : List LV) : evE T C (.calk f xs ks zs ds) s L = (evEs T C xs s L).bind fun vs L1 => (evEs T C zs s L1).bind fun ws L2 => C f (vs ++ ws ++ ds) L2 := by simp [evE]
@[simp] theorem evE_new (K : String) (xs : List Ex) (ds : List LV) : evE T C (.new K xs ds) s L = (evEs T C xs s L).bind fun vs L1 => (C (K ++ ".__init__") (.ref L1.length :: (vs ++ ds)) (L1 ++ [.ins K []])).bind fun r L2 =>
      if r = .non then .ok (.ref L1.length) L2 else .stuck := by simp [evE]
@[simp] theorem evE_blt (f : String) (xs : List Ex) : evE T C (.blt f xs) s L = (evEs T C xs s L).bind fun vs L1 => bltV f vs L1 := by simp [evE]
@[simp] theorem evE_isi (a : Ex) (ts : List String) : evE T C (.isi a ts) s L = (evE T C a s L).bind fun v L1 => .of ((isKinds L1 v ts).map .bl) L1 := by simp [evE]
def fldV (v : LV) (f : String) (L : LH) : R LV := match v with
  | .ref i => (match L[i]? with
    | some (.ins _ fs) => .of (getF f fs) L
    | _ => .stuck)
  | .ob _ ns xs => .of (getO f ns xs) L
  | _ => .stuck
@[simp] theorem evE_fld (e : Ex) (f : String) : evE T C (.fld e f) s L = (evE T C e s L).bind fun v L1 => fldV v f L1 := by simp [evE] <;> rfl
/-- a method called -/
def mthV (T : Tbl) (C : Orc) (m : String) (xs : List Ex) (ds : List LV) (s : Sl) (x : LV) (L1 : LH) : R LV := match x with
    | .ref i => (match L1[i]? with
      | some (.ins K fs) => if getF m fs = none then (evEs T C xs s L1).bind fun vs L2 => C (K ++ "." ++ m) (.ref i :: (vs ++ ds)) L2 else .stuck
      | some (.lst _) => (evEs T C xs s L1).bind fun vs L2 => lmV m (.ref i) vs L2
      | _ => .stuck)
    | .str z => (evEs T C xs s L1).bind fun vs L2 => smV m z vs L2
    | .ob K ns ys => if getO m ns ys = none then (evEs T C xs s L1).bind fun vs L2 => C (K ++ "." ++ m) (.ob K ns ys :: (vs ++ ds)) L2 else .stuck
    | _ => .stuck
@[simp] theorem evE_mth (e : Ex) (m : String) (xs : List Ex) (ds : List LV) : evE T C (.mth e m xs ds) s L = (evE T C e s L).bind fun x L1 => mthV T C m xs ds s x L1 := by simp only [evE] <;> rfl
@[simp] theorem mthV_ob {m : String} {xs : List Ex} {ds : List LV} {K : String} {ns : List String} {ys : List LV} : mthV T C m xs ds s (.ob K ns ys) L = if getO m ns ys = none then (evEs T C xs s L).bind fun vs L2 => C (K ++ "." ++ m) (.ob K ns ys :: (vs ++ ds)) L2 else .stuck := rfl
@[simp] theorem mthV_str {m : String} {xs : List Ex} {ds : List LV} {z : String} : mthV T C m xs ds s (.str z) L = (evEs T C xs s L).bind fun vs L2 => smV m z vs L2 := rfl
theorem mthV_lst {m : String} {xs : List Ex} {ds : List LV} {i : Nat} {ys : List LV} (h : L[i]? = some (.lst ys)) : mthV T C m xs ds s (.ref i) L = (evEs T C xs s L).bind fun vs L2 => lmV m (.ref i) vs L2 := by simp only [mthV, h]
@[simp] theorem mthV_last {m : String} {xs : List Ex} {ds : List LV} {ys : List LV} : mthV T C m xs ds s (.ref L.length) (L ++ [.lst ys]) = (evEs T C xs s (L ++ [.lst ys])).bind fun vs L2 => lmV m (.ref L.length) vs L2 := mthV_lst get_last
@[simp] theorem evE_frz (e : Ex) : evE T C (.frz e) s L = (evE T C e s L).bind fun v L1 => fzV L v L1 := by simp [evE]
theorem fzV_lst {xs : List LV} (h : clVs L.length xs = true) : fzV L (.ref L.length) (L ++ [.lst xs]) = .ok (.fl xs) L := by
  simp [fzV, h]
theorem fzV_ins {K : String} {fs : List (String × LV)} (h : clFs L.length fs = true) : fzV L (.ref L.length) (L ++ [.ins K fs]) = .ok (.ob K (fs.map (·.1)) (fs.map (·.2))) L := by
  simp [fzV, h]
@[simp] theorem fzV_non : fzV L .non L' = .ok .non L' := rfl
@[simp] theorem fzV_bl {b} : fzV L (.bl b) L' = .ok (.bl b) L' := rfl
@[simp] theorem fzV_int {b} : fzV L (.int b) L' = .ok (.int b) L' := rfl
@[simp] theorem fzV_str {b} : fzV L (.str b) L' = .ok (.str b) L' := rfl
@[simp] theorem fzV_tup {b} : fzV L (.tup b) L' = .ok (.tup b) L' := rfl
@[simp] theorem fzV_fl {b} : fzV L (.fl b) L' = .ok (.fl b) L' := rfl
@[simp] theorem fzV_ob {a b c} : fzV L (.ob a b c) L' = .ok (.ob a b c) L' := rfl
@[simp] theorem binO_int {op y i} : binO C op (.int i) y L = binV op (.int i) y L := rfl
@[simp] theorem binO_str {op y i} : binO C op (.str i) y L = binV op (.str i) y L := rfl
@[simp] theorem binO_tup {op y i} : binO C op (.tup i) y L = binV op (.tup i) y L := rfl
@[simp] theorem binO_fl {op y i} : binO C op (.fl i) y L = binV op (.fl i) y L := rfl
@[simp] theorem binO_ref {op y i} : binO C op (.ref i) y L = binV op (.ref i) y L := rfl
@[simp] theorem cmpO_non {op x} : cmpO C op x .non L = .of ((cmpV op x .non L).map .bl) L := rfl
@[simp] theorem cmpO_bl {op x i} : cmpO C op x (.bl i) L = .of ((cmpV op x (.bl i) L).map .bl) L := rfl
@[simp] theorem cmpO_int {op x i} : cmpO C op x (.int i) L = .of ((cmpV op x (.int i) L).map .bl) L := rfl
@[simp] theorem cmpO_str {op x i} : cmpO C op x (.str i) L = .of ((cmpV op x (.str i) L).map .bl) L := rfl
@[simp] theorem cmpO_tup {op x i} : cmpO C op x (.tup i) L = .of ((cmpV op x (.tup i) L).map .bl) L := rfl
@[simp] theorem cmpO_fl {op x i} : cmpO C op x (.fl i) L = .of ((cmpV op x (.fl i) L).map .bl) L := rfl
@[simp] theorem cmpO_ref {op x i} : cmpO C op x (.ref i) L = .of ((cmpV op x (.ref i) L).map .bl) L := rfl
def idxV (x k : LV) (L : LH) : Option LV := match k with
  | .int i => (seqAt L x).bind fun xs => (ixL xs.length i).bind fun j => xs[j]?
  | _ => none
@[simp] theorem evE_idx (a i : Ex) : evE T C (.idx a i) s L = (evE T C a s L).bind fun x L1 => (evE T C i s L1).bind fun k L2 => .of (idxV x k L2) L2 := by
  simp only [evE]
  congr 1; funext x L1; congr 1; funext k L2
  cases k <;> rfl
theorem evE_cpr (elt : Ex) (tg : Tg) (src : It) (cond : Option Ex) (own : List Nat) : evE T C (.cpr elt tg src cond own) s L = (evI T C src s L).bind fun p L1 => (cprL (cprB T C elt tg cond own s) p.2 L1.length p.1 (L1 ++ [.lst []])).bind fun _ L2 => .ok (.ref L1.length) L2 := by
  simp only [evE] <;> rfl
@[simp] theorem evEs_nil : evEs T C [] s L = .ok [] L := by simp [evEs]
@[simp] theorem evEs_cons (e : Ex) (r : List Ex) : evEs T C (e :: r) s L = (evE T C e s L).bind fun v L1 => (evEs T C r s L1).bind fun vs L2 => .ok (v :: vs) L2 := by simp [evEs]
@[simp] theorem evC_none : evC T C none s L = .ok true L := by simp [evC]
@[simp] theorem evC_some (e : Ex) : evC T C (some e) s L = (evE T C e s L).bind asB := by simp [evC]
def itV (v : LV) (L : LH) : R (List LV × Option (Nat × List LV)) := match v with
    | .tup xs => .ok (xs, none) L
    | .fl xs => .ok (xs, none) L
    | .ref i => (match L[i]? with
      | some (.lst xs) => .ok (xs, some (i, xs)) L
      | _ => .stuck)
    | _ => .stuck
@[simp] theorem evI_of (e : Ex) : evI T C (.of e) s L = (evE T C e s L).bind fun v L1 => itV v L1 := by simp only [evI] <;> rfl
def rngV (vs : List LV) (L : LH) : R (List LV × Option (Nat × List LV)) := match vs with
    | [.int j] => if -(2 ^ 62) ≤ j ∧ j < 2 ^ 62 then .ok ((List.range j.toNat).map fun (k : Nat) => .int (0 + k), none) L else .stuck
    | [.int i, .int j] => if -(2 ^ 62) ≤ i ∧ i < 2 ^ 62 ∧ -(2 ^ 62) ≤ j ∧ j < 2 ^ 62 then .ok ((List.range (j - i).toNat).map fun (k : Nat) => .int (i + k), none) L else .stuck
    | _ => .stuck
@[simp] theorem evI_rng (xs : List Ex) : evI T C (.rng xs) s L = (evEs T C xs s L).bind fun vs L1 => rngV vs L1 := by simp only [evI] <;> rfl
@[simp] theorem evG_nm (i : Nat) (v : LV) : evG T C (.nm i) v s L = if i < s.length then .ok (s.set i (some v)) L else .stuck := by simp [evG]
@[simp] theorem evG_tup (ts : List Tg) (v : LV) : evG T C (.tup ts) v s L = match v with | .tup vs => evGs T C ts vs s L | _ => .stuck := by simp only [evG] <;> rfl
@[simp] theorem evG_fld (o : Ex) (f : String) (v : LV) : evG T C (.fld o f) v s L = (evE T C o s L).bind fun x L1 => match x with
    | .ref a => (match L1[a]? with
      | some (.ins K fs) => if fs.length < 900 then .ok s (L1.set a (.ins K (putFL f v fs))) else .stuck
      | _ => .stuck)
    | _ => .stuck := by simp only [evG] <;> rfl
@[simp] theorem evGs_nil : evGs T C [] [] s L = .ok s L := by simp [evGs]
@[simp] theorem evGs_cons (t : Tg) (ts : List Tg) (v : LV) (vs : List LV) : evGs T C (t :: ts) (v :: vs) s L = (evG T C t v s L).bind fun s' L' => evGs T C ts vs s' L' := by simp [evGs]
@[simp] theorem evS_asg (t : Tg) (e : Ex) : evS T C (.asg t e) s L = ((evE T C e s L).bind fun v L1 => evG T C t v s L1).toS fun s' L' => .nx s' L' := by simp [evS]
@[simp] theorem evS_aug (i : Nat) (op : BOp) (e : Ex) : evS T C (.aug i op e) s L = (R.of (sget s i) L).toS fun x L => (evE T C e s L).toS fun y L1 => (augV op x y L1).toS fun z L2 => .nx (s.set i (some z)) L2 := by
  simp only [evS]
  cases sget s i <;> rfl
@[simp] theorem evS_exp (e : Ex) : evS T C (.exp e) s L = (evE T C e s L).toS fun _ L1 => .nx s L1 := by simp [evS]
@[simp] theorem evS_ite' (c : Ex) (a b : List Sm) : evS T C (.ite c a b) s L = ((evE T C c s L).bind asB).toS fun k L1 => if k = true then evSs T C a s L1 else evSs T C b s L1 := evS_ite
@[simp] theorem evS_for (t : Tg) (it : It) (b : List Sm) : evS T C (.for t it b) s L = (evI T C it s L).toS fun p L1 => forL (bodyF T C t b) p.2 p.1 s L1 := by simp only [evS] <;> rfl
@[simp] theorem evS_ret (e : Ex) : evS T C (.ret e) s L = (evE T C e s L).toS fun v L1 => .rt v L1 := by simp [evS]
@[simp] theorem evS_retN : evS T C .retN s L = .rt .non L := by simp [evS]
@[simp] theorem evS_brk : evS T C .brk s L = .bk s L := by simp [evS]
@[simp] theorem evS_cnt : evS T C .cnt s L = .ct s L := by simp [evS]
@[simp] theorem evS_pass : evS T C .pass s L = .nx s L := by simp [evS]
@[simp] theorem evS_rse : evS T C .rse s L = .stuck := by simp [evS]
@[simp] theorem evS_mch (e : Ex) (cs : List Cs) : evS T C (.mch e cs) s L = (evE T C e s L).toS fun v L1 => evCs T C cs v s L1 := by simp [evS]
@[simp] theorem evSs_nil : evSs T C [] s L = .nx s L := by simp [evSs]
theorem evSs_cons (a : Sm) (r : List Sm) : evSs T C (a :: r) s L = (evS T C a s L).bind fun s' L' => evSs T C r s' L' := by simp [evSs]
@[simp] theorem evCs_nil (v : LV) : evCs T C [] v s L = .nx s L := by simp [evCs]
theorem evCs_cons (p : Pt) (b : List Sm) (r : List Cs) (v : LV) : evCs T C (.mk p b :: r) v s L = match mtP L p v with
    | .hit bs => evSs T C b (setAll s bs) L
    | .miss => evCs T C r v s L
    | .stuck => .stuck := by simp only [evCs] <;> rfl
theorem SWp_cons {N B K : SP} {R' : LV → LH → Prop} {a : Sm} {r : List Sm} (h : SWp (evS T C a s L) (fun s' L' => SWp (evSs T C r s' L') N B K R') B K R') : SWp (evSs T C (a :: r) s L) N B K R' := by
  rw [evSs_cons, SWp_bind]; exact h
theorem SWp_body {N B K : SP} {R' : LV → LH → Prop} {t : Tg} {b : List Sm} {x : LV} (h : RWp (evG T C t x s L) fun s' L' => SWp (evSs T C b s' L') N B K R') : SWp (bodyF T C t b x s L) N B K R' := by
  unfold bodyF; rw [SWp_toS]; exact h
@[simp] theorem asB_bl (b : Bool) : asB (.bl b) L = .ok b L := rfl
end

/-! ### the defs that every law has -/
section
variable {T : Tbl} {C : Orc}
def F_digit : Fn := ⟨2, 2, [.ite (.cmp .lt (.var 1) (.blt "len" [.var 0])) [.ret (.idx (.var 0) (.var 1))] [],
    .ret (.con (.int 0))]⟩
def F_whole : Fn := ⟨1, 1, [.ret (.and (.isi (.var 0) ["int"]) (.not (.isi (.var 0) ["bool"])))]⟩
def F_row : Fn := ⟨2, 6, [.asg (.nm 2) (.lst []),
    .for (.nm 3) (.of (.var 0)) [.asg (.nm 4) (.blt "abs" [.blt "int" [.var 3]]),
    .for (.nm 5) (.rng [.con (.int 60)]) [.ite (.cmp .lt (.blt "len" [.var 2]) (.var 1)) [.exp (.mth (.var 2) "append" [.bin .mod (.var 4) (.con (.int 16))] [])] [],
    .asg (.nm 4) (.bin .fdv (.var 4) (.con (.int 16))),
    .ite (.cmp .eq (.var 4) (.con (.int 0))) [.brk] []]],
    .ret (.var 2)]⟩
/-- a row's digits -/
def isDig (v : LV) : Bool := match v with | .int i => decide (0 ≤ i ∧ i < 16) | _ => false
def S_digit (args : List LV) (L : LH) : R LV := match args with
  | [.fl xs, .int a] => if 0 ≤ a ∧ xs.length ≤ big then .ok (xs.getD a.toNat (.int 0)) L else .stuck
  | _ => .stuck
theorem getD_cl {n : Nat} {d : LV} (hd : clV n d = true) : ∀ {xs : List LV} {i : Nat}, clVs n xs = true → clV n (xs.getD i d) = true
  | [], i, _ => by simpa using hd
  | x :: xs, 0, h => by
    simp only [clVs, Bool.and_eq_true] at h
    exact h.1
  | x :: xs, i + 1, h => by
    simp only [clVs, Bool.and_eq_true] at h
    simpa using getD_cl hd (i := i) h.2
@[simp] theorem ord_lt_int {L : LH} {a b : Int} : ordV .lt (.int a) (.int b) L = some (decide (a < b)) := by simp [ordV, ordD, toD, alikeD, nonD, ltD]
@[simp] theorem ord_gt_int {L : LH} {a b : Int} : ordV .gt (.int a) (.int b) L = some (decide (b < a)) := by simp [ordV, ordD, toD, alikeD, nonD, ltD]
@[simp] theorem ord_le_int {L : LH} {a b : Int} : ordV .le (.int a) (.int b) L = some (decide (a ≤ b)) := by simp [ordV, ordD, toD, alikeD, nonD, ltD]
@[simp] theorem ord_ge_int {L : LH} {a b : Int} : ordV .ge (.int a) (.int b) L = some (decide (b ≤ a)) := by simp [ordV, ordD, toD, alikeD, nonD, ltD]
theorem meets_digit : Meets (evF T C F_digit) S_digit := by
  intro args L r2 L2 hL ha h
  unfold S_digit at h
  split at h
  · rename_i xs a
    split at h
    · rename_i h0
      cases h
      have hcl : clVs L.length xs = true := by simp only [clVs, clV, Bool.and_true] at ha; exact ha
      refine ⟨_, _, ?_, Sim.refl hL (getD_cl rfl hcl) (Nat.le_refl _)⟩
      have h1 := h0.1
      simp [evF, evSs_cons, F_digit, sget, bltV, lenV, seqAt, cmpV, idxV]
      by_cases hl : a < (xs.length : Int)
      · have e : a.toNat < xs.length := by omega
        simp [hl, ixL, h1, e]
      · have e : ¬ a.toNat < xs.length := by omega
        simp [hl, e]
    · cases h
  · cases h
def S_whole (args : List LV) (L : LH) : R LV := match args with
  | [.non] => .ok (.bl false) L
  | [.bl _] => .ok (.bl false) L
  | [.int _] => .ok (.bl true) L
  | [.str _] => .ok (.bl false) L
  | [.tup _] => .ok (.bl false) L
  | _ => .stuck
theorem meets_whole : Meets (evF T C F_whole) S_whole := by
  intro args L r2 L2 hL ha h
  unfold S_whole at h
  split at h <;> first | (cases h; done) | skip
  all_goals
    cases h
    refine ⟨_, _, ?_, Sim.refl hL rfl (Nat.le_refl _)⟩
    simp [evF, evSs_cons, F_whole, sget, isKinds, isKind]
end
end G
set_option Elab.async false
set_option linter.all false
set_option maxRecDepth 100000
set_option maxHeartbeats 4000000
/-! G14: the row of a script. -/
namespace G
open PySem
section
variable {T : Tbl} {C : Orc}
theorem evF_rt {f : Fn} {vs : List LV} {L L' : LH} {v : LV} (ha : vs.length = f.arity) (h : evSs T C f.body (vs.map some ++ List.replicate (f.slots - vs.length) none) L = .rt v L') : evF T C f vs L = .ok v L' := by
  unfold evF
  rw [if_pos ha, h]
theorem evF_nx {f : Fn} {vs : List LV} {L L' : LH} {s : Sl} (ha : vs.length = f.arity) (h : evSs T C f.body (vs.map some ++ List.replicate (f.slots - vs.length) none) L = .nx s L') : evF T C f vs L = .ok .non L' := by
  unfold evF
  rw [if_pos ha, h]
theorem evF_go {f : Fn} {vs : List LV} {L : LH} {Q : LV → LH → Prop} (ha : vs.length = f.arity) (h : SWp (evSs T C f.body (vs.map some ++ List.replicate (f.slots - vs.length) none) L) No No No Q) : ∃ v L', evF T C f vs L = .ok v L' ∧ Q v L' := by
  cases hr : evSs T C f.body (vs.map some ++ List.replicate (f.slots - vs.length) none) L with
  | rt v L' => rw [hr] at h; exact ⟨v, L', evF_rt ha hr, h⟩
  | _ => rw [hr] at h; exact h.elim
/-- the digits of one cell -/
def cellF (most : Int) : Nat → Int → List Int → List Int
  | 0, _, row => row
  | k + 1, rest, row =>
    let row' := if (row.length : Int) < most then row ++ [rest % 16] else row
    if rest / 16 = 0 then row' else cellF most k (rest / 16) row'
def rowF (most : Int) (ns : List Int) : List Int := ns.foldl (fun row z => cellF most 60 (if z < 0 then -z else z) row) []
theorem cellF_dig {most : Int} : ∀ (k : Nat) (rest : Int) (row : List Int), (∀ x ∈ row, 0 ≤ x ∧ x < 16) → (0 ≤ most → row.length ≤ most.toNat) → (∀ x ∈ cellF most k rest row, 0 ≤ x ∧ x < 16) ∧ (0 ≤ most → (cellF most k rest row).length ≤ most.toNat)
  | 0, _, row, h, hl => ⟨h, hl⟩
  | k + 1, rest, row, h, hl => by
    have h1 : ∀ x ∈ (if (row.length : Int) < most then row ++ [rest % 16] else row), 0 ≤ x ∧ x < 16 := by
      intro x hx
      split at hx
      · rcases List.mem_append.mp hx with q | q
        · exact h x q
        · simp at q; subst q; omega
      · exact h x hx
    have h2 : 0 ≤ most → (if (row.length : Int) < most then row ++ [rest % 16] else row).length ≤ most.toNat := by
      intro hm
      split
      · simp; omega
      · exact hl hm
    simp only [cellF]
    split
    · exact ⟨h1, h2⟩
    · exact cellF_dig k _ _ h1 h2
theorem rowF_dig {most : Int} (ns : List Int) : (∀ x ∈ rowF most ns, 0 ≤ x ∧ x < 16) ∧ (0 ≤ most → (rowF most ns).length ≤ most.toNat) := by
  have : ∀ (ns row : List Int), (∀ x ∈ row, 0 ≤ x ∧ x < 16) → (0 ≤ most → row.length ≤ most.toNat) → (∀ x ∈ ns.foldl (fun row z => cellF most 60 (if z < 0 then -z else z) row) row, 0 ≤ x ∧ x < 16) ∧ (0 ≤ most → (ns.foldl (fun row z => cellF most 60 (if z < 0 then -z else z) row) row).length ≤ most.toNat) := by
    intro ns
    induction ns with
    | nil => intro row h hl; exact ⟨h, hl⟩
    | cons z r ih =>
      intro row h hl
      rw [List.foldl_cons]
      obtain ⟨a, b⟩ := cellF_dig 60 (if z < 0 then -z else z) row h hl
      exact ih _ a b
  exact this ns [] (by simp) (by simp)
def S_row (args : List LV) (L : LH) : R LV := match args with
  | [.fl xs, .int m] => match intsL xs with
    | some ns => if 0 ≤ m ∧ m ≤ 1000 then .ok (.fl ((rowF m ns).map .int)) L else .stuck
    | none => .stuck
  | _ => .stuck
theorem of_intsL : ∀ {xs : List LV} {ns : List Int}, intsL xs = some ns → xs = ns.map .int
  | [], ns, h => by simp [intsL] at h; subst h; rfl
  | x :: r, ns, h => by
    cases x with
    | int a =>
      simp only [intsL] at h
      obtain ⟨t, ht, rfl⟩ := Option.map_eq_some_iff.mp h
      rw [of_intsL ht]; rfl
    | _ => simp [intsL] at h
theorem ints_cl (n : Nat) : ∀ (ns : List Int), clVs n (ns.map .int) = true
  | [] => rfl
  | a :: r => by simp [clVs, clV, ints_cl n r]
/-- the inner loop: one cell -/
theorem row_cell (L0 : LH) (s0 s1 : Option LV) (m : Int) (hm : 0 ≤ m ∧ m ≤ 1000) : ∀ (xs : List LV) (rest : Int) (row : List Int) (y3 y5 : Option LV), row.length ≤ m.toNat →
    ∃ y4 y5', forL (bodyF T C (.nm 5) [.ite (.cmp .lt (.blt "len" [.var 2]) (.var 1)) [.exp (.mth (.var 2) "append" [.bin .mod (.var 4) (.con (.int 16))] [])] [],
      .asg (.nm 4) (.bin .fdv (.var 4) (.con (.int 16))),
      .ite (.cmp .eq (.var 4) (.con (.int 0))) [.brk] []]) none xs [s0, some (.int m), some (.ref L0.length), y3, some (.int rest), y5] (L0 ++ [.lst (row.map .int)]) =
      .nx [s0, some (.int m), some (.ref L0.length), y3, some y4, y5'] (L0 ++ [.lst ((cellF m xs.length rest row).map .int)])
  | [], rest, row, y3, y5, hr => ⟨.int rest, y5, by simp [forL, chkOk, cellF]⟩
  | x :: r, rest, row, y3, y5, hr => by
    have hb : row.length < big := by
      have : big = 1000000 := rfl
      omega
    have hb' : row.length ≤ big := by omega
    simp only [forL, chkOk, if_true]
    by_cases hl : (row.length : Int) < m
    · by_cases hz : rest / 16 = 0
      · simp [bodyF, evSs_cons, sget, bltV, lenV, seqAt, cmpV, lmV, appendV, binV, toD, eqD, hl, hb, hz, cellF]
      · obtain ⟨y4, y5', ih⟩ := row_cell L0 s0 s1 m hm r (rest / 16) (row ++ [rest % 16]) y3 (some x) (by simp; omega)
        refine ⟨y4, y5', ?_⟩
        simp [bodyF, evSs_cons, sget, bltV, lenV, seqAt, cmpV, lmV, appendV, binV, toD, eqD, hl, hb, hz, cellF]
        simpa using ih
    · by_cases hz : rest / 16 = 0
      · simp [bodyF, evSs_cons, sget, bltV, lenV, seqAt, cmpV, lmV, appendV, binV, toD, eqD, hl, hb, hz, cellF]
      · obtain ⟨y4, y5', ih⟩ := row_cell L0 s0 s1 m hm r (rest / 16) row y3 (some x) hr
        refine ⟨y4, y5', ?_⟩
        simp [bodyF, evSs_cons, sget, bltV, lenV, seqAt, cmpV, lmV, appendV, binV, toD, eqD, hl, hb, hz, cellF]
        simpa using ih
def inner : List Sm := [.asg (.nm 4) (.blt "abs" [.blt "int" [.var 3]]),
    .for (.nm 5) (.rng [.con (.int 60)]) [.ite (.cmp .lt (.blt "len" [.var 2]) (.var 1)) [.exp (.mth (.var 2) "append" [.bin .mod (.var 4) (.con (.int 16))] [])] [],
    .asg (.nm 4) (.bin .fdv (.var 4) (.con (.int 16))),
    .ite (.cmp .eq (.var 4) (.con (.int 0))) [.brk] []]]
theorem row_cells (L0 : LH) (s0 s1 : Option LV) (m : Int) (hm : 0 ≤ m ∧ m ≤ 1000) : ∀ (ns : List Int) (row : List Int) (y3 y4 y5 : Option LV), row.length ≤ m.toNat → (∀ x ∈ row, 0 ≤ x ∧ x < 16) →
    ∃ y3' y4' y5', forL (bodyF T C (.nm 3) inner) none (ns.map .int) [s0, some (.int m), some (.ref L0.length), y3, y4, y5] (L0 ++ [.lst (row.map .int)]) =
      .nx [s0, some (.int m), some (.ref L0.length), y3', y4', y5'] (L0 ++ [.lst ((ns.foldl (fun row z => cellF m 60 (if z < 0 then -z else z) row) row).map .int)])
  | [], row, y3, y4, y5, hr, hd => ⟨y3, y4, y5, by simp [forL, chkOk]⟩
  | z :: r, row, y3, y4, y5, hr, hd => by
    obtain ⟨a, b⟩ := cellF_dig (most := m) 60 (if z < 0 then -z else z) row hd fun _ => hr
    obtain ⟨x4, x5, e⟩ := row_cell (T := T) (C := C) L0 s0 s1 m hm ((List.range (60 : Int).toNat).map fun (k : Nat) => .int (0 + k)) (if z < 0 then -z else z) row (some (.int z)) y5 hr
    have l60 : ((List.range (60 : Int).toNat).map fun (k : Nat) => LV.int (0 + k)).length = 60 := by simp
    rw [l60] at e
    obtain ⟨z3, z4, z5, ih⟩ := row_cells L0 s0 s1 m hm r (cellF m 60 (if z < 0 then -z else z) row) (some (.int z)) (some x4) x5 (b hm.1) a
    refine ⟨z3, z4, z5, ?_⟩
    have eb : bodyF T C (.nm 3) inner (.int z) [s0, some (.int m), some (.ref L0.length), y3, y4, y5] (L0 ++ [.lst (row.map .int)]) = .nx [s0, some (.int m), some (.ref L0.length), some (.int z), some x4, x5] (L0 ++ [.lst ((cellF m 60 (if z < 0 then -z else z) row).map .int)]) := by
      simp only [bodyF, inner, evG_nm, evSs_cons, evSs_nil, evS_asg, evS_for, evE_blt, evEs_cons, evEs_nil, evE_var, evI_rng, evE_con]
      simp [sget, bltV, intV, absV', rngV, -List.map_map, -List.map_append]
      simp at e
      rw [e]
      simp
    simp only [List.map_cons, forL, chkOk, if_true, eb, List.foldl_cons]
    exact ih
theorem meets_row : Meets (evF T C F_row) S_row := by
  intro args L r2 L2 hL ha h
  unfold S_row at h
  split at h
  · rename_i xs m
    split at h
    · rename_i ns hns
      have hx := of_intsL hns
      subst hx
      split at h
      · rename_i hm
        cases h
        obtain ⟨y3, y4, y5, e⟩ := row_cells (T := T) (C := C) L (some (.fl (ns.map .int))) none m hm ns [] none none none (by simp) (by simp)
        refine ⟨.ref L.length, L ++ [.lst ((rowF m ns).map .int)], ?_, ?_⟩
        · have e2 : evSs T C F_row.body [some (.fl (ns.map .int)), some (.int m), none, none, none, none] L = .rt (.ref L.length) (L ++ [.lst ((rowF m ns).map .int)]) := by
            simp only [F_row, evSs_cons, evSs_nil, evS_asg, evS_for, evE_lst, evEs_nil, evI_of, evE_var, evS_ret]
            simp [sget, itV, -List.map_map, -List.map_append]
            have e' := e
            simp only [inner, List.map_nil] at e'
            rw [e']
            simp [rowF]
          exact evF_rt rfl e2
        · exact Sim.fz hL (by simp) (Nat.le_refl _) (ints_cl _ _)
      · cases h
    · cases h
  · cases h
end
end G
set_option Elab.async false
set_option linter.all false
set_option maxRecDepth 100000
set_option maxHeartbeats 4000000
/-! G15: the comparison that every law has. -/
namespace G
open PySem
mutual
/-- the comparison walks k pairs and finds no difference -/
inductive SzE (L : LH) : LV → LV → Nat → Prop
  | non : SzE L .non .non 1
  | bl (b : Bool) : SzE L (.bl b) (.bl b) 1
  | int (i : Int) : SzE L (.int i) (.int i) 1
  | str (x : String) : SzE L (.str x) (.str x) 1
  | tup {xs ys : List LV} {k : Nat} : xs.length = ys.length → SzP L (xs.zip ys) k → SzE L (.tup xs) (.tup ys) (k + 1)
  | lst {x y : LV} {xs ys : List LV} {k : Nat} : lstAt L x = some xs → lstAt L y = some ys → xs.length = ys.length → SzP L (xs.zip ys) k → SzE L x y (k + 1)
inductive SzP (L : LH) : List (LV × LV) → Nat → Prop
  | nil : SzP L [] 0
  | cons {p : LV × LV} {r : List (LV × LV)} {a b : Nat} : SzE L p.1 p.2 a → SzP L r b → SzP L (p :: r) (a + b)
end
theorem SzE.pos {L : LH} {x y : LV} {k : Nat} (h : SzE L x y k) : 0 < k := by cases h <;> omega
theorem SzP.len {L : LH} : ∀ {ps : List (LV × LV)} {k : Nat}, SzP L ps k → ps.length ≤ k
  | [], _, .nil => Nat.le_refl _
  | p :: r, _, .cons h t => by
    have := h.pos
    have := SzP.len t
    simp only [List.length_cons]
    omega
theorem SzP.app {L : LH} : ∀ {ps qs : List (LV × LV)} {a b : Nat}, SzP L ps a → SzP L qs b → SzP L (ps ++ qs) (a + b)
  | [], qs, _, b, .nil, h => by rw [Nat.zero_add]; exact h
  | p :: r, qs, _, b, .cons h t, h' => by
    rw [Nat.add_assoc]
    exact .cons h (SzP.app t h')
theorem SzP.split {L : LH} : ∀ {ps : List (LV × LV)} {x y : LV} {k : Nat}, SzP L (ps ++ [(x, y)]) k → ∃ a b, SzP L ps a ∧ SzE L x y b ∧ k = a + b
  | [], x, y, _, h => by
    cases h with
    | cons h t => cases t; exact ⟨0, _, .nil, h, by omega⟩
  | p :: r, x, y, _, h => by
    cases h with
    | cons h t =>
      obtain ⟨a, b, h1, h2, h3⟩ := SzP.split t
      exact ⟨_, b, .cons h h1, h2, by omega⟩
/-- what a row's items' same list gives -/
theorem SzP.self_ints {L : LH} : ∀ (ns : List Int), SzP L ((ns.map LV.int).zip (ns.map .int)) ns.length
  | [] => .nil
  | n :: r => by
    have := SzP.cons (p := (.int n, .int n)) (SzE.int n) (SzP.self_ints (L := L) r)
    simpa [Nat.add_comm] using this
theorem SzP.self_strs {L : LH} : ∀ (ns : List String), SzP L ((ns.map LV.str).zip (ns.map .str)) ns.length
  | [] => .nil
  | n :: r => by
    have := SzP.cons (p := (.str n, .str n)) (SzE.str n) (SzP.self_strs (L := L) r)
    simpa [Nat.add_comm] using this
def eqBody : List Sm := [.ite (.cmp .eq (.blt "len" [.var 2]) (.con (.int 0))) [.ret (.con (.bl true))] [],
    .asg (.nm 4) (.mth (.var 2) "pop" [] []),
    .asg (.nm 5) (.idx (.var 4) (.con (.int 0))),
    .asg (.nm 6) (.idx (.var 4) (.con (.int 1))),
    .ite (.or (.cmp .isn (.var 6) (.con .non)) (.isi (.var 6) ["bool"])) [.ite (.or (.cmp .ne (.isi (.var 5) ["bool"]) (.isi (.var 6) ["bool"])) (.cmp .ne (.var 5) (.var 6))) [.ret (.con (.bl false))] []] [.ite (.isi (.var 6) ["int"]) [.ite (.or (.not (.call "_law_whole" [.var 5] [])) (.cmp .ne (.var 5) (.var 6))) [.ret (.con (.bl false))] []] [.ite (.isi (.var 6) ["str"]) [.ite (.or (.not (.isi (.var 5) ["str"])) (.cmp .ne (.var 5) (.var 6))) [.ret (.con (.bl false))] []] [.ite (.or (.cmp .ne (.isi (.var 5) ["list"]) (.isi (.var 6) ["list"])) (.cmp .ne (.isi (.var 5) ["tuple"]) (.isi (.var 6) ["tuple"]))) [.ret (.con (.bl false))] [],
    .ite (.isi (.var 6) ["dict"]) [.ite (.or (.not (.isi (.var 5) ["dict"])) (.cmp .ne (.frz (.blt "list" [.var 5])) (.frz (.blt "list" [.var 6])))) [.ret (.con (.bl false))] [],
    .asg (.nm 5) (.frz (.cpr (.idx (.var 5) (.var 8)) (.nm 8) (.of (.var 6)) none [8])),
    .asg (.nm 6) (.frz (.cpr (.idx (.var 6) (.var 8)) (.nm 8) (.of (.var 6)) none [8]))] [],
    .ite (.cmp .ne (.blt "len" [.var 5]) (.blt "len" [.var 6])) [.ret (.con (.bl false))] [],
    .for (.nm 7) (.rng [.blt "len" [.var 6]]) [.exp (.mth (.var 2) "append" [.tup [.idx (.var 5) (.var 7), .idx (.var 6) (.var 7)]] [])]]]]]
def F_equal : Fn := ⟨2, 9, [.asg (.nm 2) (.lst [.tup [.var 0, .var 1]]),
    .for (.nm 3) (.rng [.con (.int 6000)]) eqBody,
    .ret (.con (.bl false))]⟩
def prV (p : LV × LV) : LV := .tup [p.1, p.2]
section
variable {T : Tbl} {C : Orc}
theorem at_app {L0 : LH} {o : LO} {x : LV} {xs : List LV} (h : lstAt L0 x = some xs) : lstAt (L0 ++ [o]) x = some xs := by
  cases x with
  | ref i =>
    simp only [lstAt] at h ⊢
    split at h
    · rename_i ys hi
      rw [List.getElem?_append_left (List.getElem?_eq_some_iff.mp hi).1, hi]
      exact h
    · cases h
  | _ => exact h
theorem kind_lst {L0 : LH} {x : LV} {xs : List LV} {t : String} (h : lstAt L0 x = some xs) : isKinds L0 x [t] = some (decide (t = "list")) := by
  cases x with
  | ref i =>
    simp only [lstAt] at h
    split at h
    · rename_i ys hi
      simp [isKinds, isKind, hi]
    · cases h
  | fl ys => simp [isKinds, isKind]
  | _ => cases h
theorem seq_lst {L0 : LH} {x : LV} {xs : List LV} (h : lstAt L0 x = some xs) : seqAt L0 x = some xs := by
  cases x with
  | ref i => exact h
  | fl ys => exact h
  | _ => cases h
theorem len_seq {L : LH} {x : LV} {xs : List LV} (h : seqAt L x = some xs) : lenV [x] L = .ok (.int xs.length) L := by
  cases x with
  | str y => cases h
  | _ => simp only [lenV, h]
/-- the pairs laid on the stack -/
theorem eq_push (L0 : LH) (a e y3 y4 y8 : Option LV) (o d : LV) (xs ys : List LV) (ho : ∀ w, seqAt (L0 ++ [.lst w]) o = some xs) (hd : ∀ w, seqAt (L0 ++ [.lst w]) d = some ys) (hl : xs.length = ys.length) (ws : List LV) (hb : ws.length + xs.length < big) (y7 : Option LV) :
    SWp (forL (bodyF T C (.nm 7) [.exp (.mth (.var 2) "append" [.tup [.idx (.var 5) (.var 7), .idx (.var 6) (.var 7)]] [])]) none ((List.range ys.length).map fun (k : Nat) => .int (0 + k))
      [a, e, some (.ref L0.length), y3, y4, some o, some d, y7, y8] (L0 ++ [.lst ws])) (fun s L => (∃ y7, s = [a, e, some (.ref L0.length), y3, y4, some o, some d, y7, y8]) ∧ L = L0 ++ [.lst (ws ++ (xs.zip ys).map prV)]) No No fun _ _ => False := by
  have := forL_ix (f := bodyF T C (.nm 7) [.exp (.mth (.var 2) "append" [.tup [.idx (.var 5) (.var 7), .idx (.var 6) (.var 7)]] [])]) (c := none) (xs := (List.range ys.length).map fun (k : Nat) => LV.int (0 + k)) (R' := fun _ _ => False)
    (fun j s L => (∃ y7, s = [a, e, some (.ref L0.length), y3, y4, some o, some d, y7, y8]) ∧ L = L0 ++ [.lst (ws ++ ((xs.zip ys).take j).map prV)]) (fun _ _ _ _ => rfl) ?_
    (s := [a, e, some (.ref L0.length), y3, y4, some o, some d, y7, y8]) (L := L0 ++ [.lst ws]) ⟨⟨y7, rfl⟩, by simp⟩
  · refine this.mono (fun s L h => ?_) (fun _ _ h => h) (fun _ _ h => h) (fun _ _ h => h)
    obtain ⟨h1, h2⟩ := h
    refine ⟨h1, ?_⟩
    rw [h2, List.take_of_length_le (by simp [hl])]
  · rintro j x hx s L ⟨⟨z7, rfl⟩, rfl⟩
    rw [List.getElem?_map] at hx
    obtain ⟨q, h1, rfl⟩ := Option.map_eq_some_iff.mp hx
    obtain ⟨h2, h3⟩ := List.getElem?_eq_some_iff.mp h1
    simp at h2 h3
    subst h3
    have hx' : xs[j]? = some xs[j] := List.getElem?_eq_getElem (by omega)
    have hy' : ys[j]? = some ys[j] := List.getElem?_eq_getElem h2
    have i1 : ixL xs.length (0 + (j : Int)) = some j := by
      unfold ixL
      rw [if_pos (by omega), if_pos (by omega)]
      congr 1; omega
    have i2 : ixL ys.length (0 + (j : Int)) = some j := by rw [← hl]; exact i1
    have hz : (xs.zip ys)[j]? = some (xs[j], ys[j]) := by
      rw [List.getElem?_zip_eq_some]
      exact ⟨hx', hy'⟩
    have hlt : ws.length + ((xs.zip ys).take j).length < big := by
      simp only [List.length_take]
      omega
    have h2' : (2 : Nat) ≤ big := by decide
    simp [bodyF, evSs_cons, sget, idxV, ho, hd, i1, i2, hx', hy', lmV, appendV, h2', -List.map_take, -List.length_take, -Int.zero_add]
    refine ⟨?_, ?_⟩
    · simpa using hlt
    · rw [List.take_succ, hz]
      simp [prV]
def EqN (L0 : LH) (a e : Option LV) (k : Nat) : SP := fun s L => (∃ y3 y4 y5 y6 y7 y8, s = [a, e, some (.ref L0.length), y3, y4, y5, y6, y7, y8]) ∧ ∃ ps k', SzP L0 ps k' ∧ k' < k ∧ L = L0 ++ [.lst (ps.map prV)]
theorem big_two : (2 : Nat) ≤ big := by decide
theorem eq_seqs (hC : ∀ i L, C "_law_whole" [.int i] L = .ok (.bl true) L) (L0 : LH) (a e y3 y4 y5 y6 y7 y8 : Option LV) (x : LV) (ps : List (LV × LV)) (o d : LV) (xs ys : List LV) (lt : Bool) (p q : Nat) (hp : SzP L0 ps p) (hq : SzP L0 (xs.zip ys) q) (hb : p + (q + 1) < 6000) (hl : xs.length = ys.length)
    (ho : ∀ w, seqAt (L0 ++ [.lst w]) o = some xs) (hd : ∀ w, seqAt (L0 ++ [.lst w]) d = some ys) (k1 : ∀ w t, t ≠ "list" → t ≠ "tuple" → isKinds (L0 ++ [.lst w]) o [t] = some false) (k2 : ∀ w t, t ≠ "list" → t ≠ "tuple" → isKinds (L0 ++ [.lst w]) d [t] = some false)
    (k3 : ∀ w, isKinds (L0 ++ [.lst w]) o ["list"] = some lt ∧ isKinds (L0 ++ [.lst w]) d ["list"] = some lt ∧ isKinds (L0 ++ [.lst w]) o ["tuple"] = some (!lt) ∧ isKinds (L0 ++ [.lst w]) d ["tuple"] = some (!lt)) (hn : d ≠ .non) :
    SWp (bodyF T C (.nm 3) eqBody x [a, e, some (.ref L0.length), y3, y4, y5, y6, y7, y8] (L0 ++ [.lst ((ps ++ [(o, d)]).map prV)])) (EqN L0 a e (p + (q + 1))) No No fun _ _ => False := by
  obtain ⟨c1, c2, c3, c4⟩ : (∀ w, isKinds (L0 ++ [.lst w]) o ["list"] = some lt) ∧ (∀ w, isKinds (L0 ++ [.lst w]) d ["list"] = some lt) ∧ (∀ w, isKinds (L0 ++ [.lst w]) o ["tuple"] = some (!lt)) ∧ (∀ w, isKinds (L0 ++ [.lst w]) d ["tuple"] = some (!lt)) :=
    ⟨fun w => (k3 w).1, fun w => (k3 w).2.1, fun w => (k3 w).2.2.1, fun w => (k3 w).2.2.2⟩
  have e1 := fun w => len_seq (ho w)
  have e2 := fun w => len_seq (hd w)
  have hlen := hp.len
  have hlen2 := hq.len
  have hz : ys.length ≤ q := by
    have : (xs.zip ys).length = ys.length := by simp [hl]
    omega
  have b1 : (ys.length : Int) < 2 ^ 62 := by omega
  have b2 : -(2 ^ 62) ≤ (ys.length : Int) := by omega
  have push := eq_push (T := T) (C := C) L0 a e (some x) (some (prV (o, d))) y8 o d xs ys ho hd hl (ps.map prV) (by have : big = 1000000 := rfl; simp; omega) y7
  have hgl : ∀ (l : List LV) (v : LV), (l ++ [v]).getLast? = some v := fun l v => by simp
  have h0 : ¬ ((ps.length : Int) + 1 = 0) := by omega
  refine SWp_body ?_
  simp only [eqBody, evG_nm, List.length_cons, List.length_nil, List.set_cons_succ, List.set_cons_zero]
  simp only [Nat.reduceAdd, Nat.reduceLT, if_true, RWp_ok]
  refine SWp_cons ?_
  simp [sget, bltV, lenV, seqAt, cmpV, toD, eqD, h0]
  refine SWp_cons ?_
  simp [sget, lmV, popV]
  refine SWp_cons ?_
  simp [sget, idxV, prV, seqAt, ixL]
  refine SWp_cons ?_
  simp [sget, idxV, prV, seqAt, ixL]
  refine SWp_cons ?_
  simp [sget, cmpV, hn, k1, k2]
  refine SWp_cons ?_
  simp [sget, k2]
  refine SWp_cons ?_
  simp [sget, k2]
  refine SWp_cons ?_
  simp [sget, cmpV, toD, eqD, c1, c2, c3, c4]
  refine SWp_cons ?_
  simp [sget, k2]
  refine SWp_cons ?_
  simp [sget, bltV, e1, e2, cmpV, toD, eqD, hl]
  refine SWp_cons ?_
  have hr : rngV [.int (ys.length : Int)] (L0 ++ [.lst (ps.map prV)]) = .ok ((List.range ys.length).map fun (k : Nat) => .int (0 + k), none) (L0 ++ [.lst (ps.map prV)]) := by
    simp only [rngV]
    rw [if_pos ⟨by omega, by omega⟩]
    simp
  have he : evEs T C [.blt "len" [.var 6]] [a, e, some (.ref L0.length), some x, some (.tup [o, d]), some o, some d, y7, y8] (L0 ++ [.lst (ps.map prV)]) = .ok [.int (ys.length : Int)] (L0 ++ [.lst (ps.map prV)]) := by
    simp [sget, bltV, e2]
  rw [evS_for, SWp_toS, evI_rng, RWp_bind, he, RWp_ok, hr, RWp_ok]
  refine push.mono (fun s L h => ?_) (fun _ _ h => h) (fun _ _ h => h) (fun _ _ h => h)
  obtain ⟨⟨z7, rfl⟩, rfl⟩ := h
  simp only [evSs_nil, SWp_nx]
  refine ⟨⟨_, _, _, _, _, _, rfl⟩, ps ++ xs.zip ys, p + q, hp.app hq, by omega, by simp⟩
/-- one pair is taken from the stack -/
theorem eq_step (hC : ∀ i L, C "_law_whole" [.int i] L = .ok (.bl true) L) (L0 : LH) (a e y3 y4 y5 y6 y7 y8 : Option LV) (x : LV) (ps : List (LV × LV)) (o d : LV) (p q : Nat) (hp : SzP L0 ps p) (hq : SzE L0 o d q) (hb : p + q < 6000) :
    SWp (bodyF T C (.nm 3) eqBody x [a, e, some (.ref L0.length), y3, y4, y5, y6, y7, y8] (L0 ++ [.lst ((ps ++ [(o, d)]).map prV)])) (EqN L0 a e (p + q)) No No fun _ _ => False := by
  have h0 : ¬ ((ps.length : Int) + 1 = 0) := by omega
  cases hq with
  | @tup xs ys k hl hz =>
    exact eq_seqs hC L0 a e y3 y4 y5 y6 y7 y8 x ps (.tup xs) (.tup ys) xs ys false p k hp hz (by omega) hl (fun _ => rfl) (fun _ => rfl) (fun w t h1 h2 => by simp [isKinds, isKind, h2]) (fun w t h1 h2 => by simp [isKinds, isKind, h2]) (fun w => by simp [isKinds, isKind]) (by simp)
  | @lst x y xs ys k hx hy hl hz =>
    refine eq_seqs hC L0 a e y3 y4 y5 y6 y7 y8 _ ps o d xs ys true p k hp hz (by omega) hl (fun w => seq_lst (at_app hx)) (fun w => seq_lst (at_app hy)) (fun w t h1 h2 => by rw [kind_lst (at_app hx)]; simp [h1]) (fun w t h1 h2 => by rw [kind_lst (at_app hy)]; simp [h1])
      (fun w => by simp [kind_lst (at_app (o := .lst w) hx), kind_lst (at_app (o := .lst w) hy)]) (fun z => by subst z; cases hy)
  | _ =>
    refine SWp_body ?_
    simp only [eqBody, evG_nm, List.length_cons, List.length_nil, List.set_cons_succ, List.set_cons_zero]
    simp only [Nat.reduceAdd, Nat.reduceLT, if_true, RWp_ok]
    refine SWp_cons ?_
    simp [sget, bltV, lenV, seqAt, cmpV, toD, eqD, h0]
    refine SWp_cons ?_
    simp [sget, lmV, popV]
    refine SWp_cons ?_
    simp [sget, idxV, prV, seqAt, ixL]
    refine SWp_cons ?_
    simp [sget, idxV, prV, seqAt, ixL]
    refine SWp_cons ?_
    simp [sget, cmpV, isKinds, isKind]
    refine SWp_cons ?_
    simp [sget, cmpV, isKinds, isKind, toD, eqD, hC]
    first
      | exact ⟨⟨_, _, _, _, _, _, rfl⟩, ps, p, hp, by omega, rfl⟩
      | (refine SWp_cons ?_
         simp [sget, cmpV, isKinds, isKind, toD, eqD, hC]
         exact ⟨⟨_, _, _, _, _, _, rfl⟩, ps, p, hp, by omega, rfl⟩)
      | (refine SWp_cons ?_
         simp [sget, cmpV, isKinds, isKind, toD, eqD, hC]
         refine SWp_cons ?_
         simp [sget, cmpV, isKinds, isKind, toD, eqD, hC]
         exact ⟨⟨_, _, _, _, _, _, rfl⟩, ps, p, hp, by omega, rfl⟩)
theorem eq_loop (hC : ∀ i L, C "_law_whole" [.int i] L = .ok (.bl true) L) (L0 : LH) (a e : Option LV) : ∀ (xs : List LV) (ps : List (LV × LV)) (k : Nat) (y3 y4 y5 y6 y7 y8 : Option LV), SzP L0 ps k → k < xs.length → k < 6000 →
    SWp (forL (bodyF T C (.nm 3) eqBody) none xs [a, e, some (.ref L0.length), y3, y4, y5, y6, y7, y8] (L0 ++ [.lst (ps.map prV)])) No No No fun v L => v = .bl true ∧ ∃ w, L = L0 ++ [.lst w]
  | [], ps, k, _, _, _, _, _, _, hp, h, _ => by simp at h
  | x :: r, ps, k, y3, y4, y5, y6, y7, y8, hp, h, hk => by
    simp only [forL, chkOk, if_true]
    rcases List.eq_nil_or_concat ps with rfl | ⟨ps', ⟨o, d⟩, rfl⟩
    · have : SWp (bodyF T C (.nm 3) eqBody x [a, e, some (.ref L0.length), y3, y4, y5, y6, y7, y8] (L0 ++ [.lst (([] : List (LV × LV)).map prV)])) No No No fun v L => v = .bl true ∧ ∃ w, L = L0 ++ [.lst w] := by
        refine SWp_body ?_
        simp only [eqBody, evG_nm, List.length_cons, List.length_nil, List.set_cons_succ, List.set_cons_zero]
        simp only [Nat.reduceAdd, Nat.reduceLT, if_true, RWp_ok]
        refine SWp_cons ?_
        simp [sget, bltV, lenV, seqAt, cmpV, toD, eqD]
        refine SWp_cons ?_
        simp
      cases hf : bodyF T C (.nm 3) eqBody x [a, e, some (.ref L0.length), y3, y4, y5, y6, y7, y8] (L0 ++ [.lst (([] : List (LV × LV)).map prV)]) with
      | rt v L' => rw [hf] at this; exact this
      | _ => rw [hf] at this; exact this.elim
    · rw [List.concat_eq_append] at hp ⊢
      obtain ⟨p, q, h1, h2, rfl⟩ := hp.split
      have st := eq_step (T := T) (C := C) hC L0 a e y3 y4 y5 y6 y7 y8 x ps' o d p q h1 h2 hk
      cases hf : bodyF T C (.nm 3) eqBody x [a, e, some (.ref L0.length), y3, y4, y5, y6, y7, y8] (L0 ++ [.lst ((ps' ++ [(o, d)]).map prV)]) with
      | nx s L' =>
        rw [hf] at st
        obtain ⟨⟨z3, z4, z5, z6, z7, z8, rfl⟩, ps2, k2, q1, q2, rfl⟩ := st
        exact eq_loop hC L0 a e r ps2 k2 z3 z4 z5 z6 z7 z8 q1 (by simp at h; omega) (by omega)
      | _ => rw [hf] at st; exact st.elim
open Classical in
noncomputable def S_equal (args : List LV) (L : LH) : R LV := match args with
  | [o, d] => if ∃ k, k < 6000 ∧ SzE L o d k then .ok (.bl true) L else .stuck
  | _ => .stuck
theorem meets_equal (hC : ∀ i L, C "_law_whole" [.int i] L = .ok (.bl true) L) : Meets (evF T C F_equal) S_equal := by
  intro args L r2 L2 hL ha h
  unfold S_equal at h
  split at h
  · rename_i o d
    split at h
    · rename_i hk
      cases h
      obtain ⟨k, hk1, hk2⟩ := hk
      have hp : SzP L [(o, d)] k := by
        have := SzP.cons (p := (o, d)) hk2 (SzP.nil (L := L))
        simpa using this
      have lp := eq_loop (T := T) (C := C) hC L (some o) (some d) ((List.range (6000 : Int).toNat).map fun (k : Nat) => .int (0 + k)) [(o, d)] k none none none none none none hp (by simpa using hk1) hk1
      have hr : ∀ L', rngV [.int 6000] L' = .ok ((List.range (6000 : Int).toNat).map fun (k : Nat) => .int (0 + k), none) L' := fun L' => by
        simp only [rngV]
        rw [if_pos ⟨by decide, by decide⟩]
      have : SWp (evSs T C F_equal.body [some o, some d, none, none, none, none, none, none, none] L) No No No fun v L' => v = .bl true ∧ ∃ w, L' = L ++ [.lst w] := by
        simp only [F_equal]
        refine SWp_cons ?_
        have h1 : (1 : Nat) ≤ big := by decide
        have h2 : (2 : Nat) ≤ big := by decide
        simp [sget, h1, h2]
        refine SWp_cons ?_
        simp only [evS_for, evI_rng, evEs_cons, evEs_nil, evE_con, R.bind_ok, hr, R.toS_ok]
        refine lp.mono (fun _ _ h => h.elim) (fun _ _ h => h) (fun _ _ h => h) (fun _ _ h => h)
      obtain ⟨v, L', e1, rfl, w, rfl⟩ := evF_go (f := F_equal) (vs := [o, d]) rfl this
      exact ⟨_, _, e1, Sim.drop hL rfl⟩
    · cases h
  · cases h
end
end G
set_option Elab.async false
set_option linter.all false
set_option maxRecDepth 100000
set_option maxHeartbeats 4000000
/-! G16: more plain tools: frozen comprehensions, names, objects of chosen names. -/
namespace G
open PySem
section
variable {T : Tbl} {C : Orc} {s : Sl} {L : LH}
theorem get_ap {G : LH} {k : Nat} : (L ++ G)[L.length + k]? = G[k]? := by
  rw [List.getElem?_append_right (by omega)]; congr 1; omega
theorem set_ap {G : LH} {k : Nat} {o : LO} : (L ++ G).set (L.length + k) o = L ++ G.set k o := by
  rw [List.set_append_right _ _ (by omega)]; congr 2; omega
theorem get_lt {G : LH} {i : Nat} {o : LO} (h : L[i]? = some o) : (L ++ G)[i]? = some o := by
  rw [List.getElem?_append_left (List.getElem?_eq_some_iff.mp h).1]; exact h
theorem cpr_ok {elt : Ex} {tg : Tg} {src : It} {cond : Option Ex} {own : List Nat} {xs : List LV} {c : Option (Nat × List LV)} {L1 : LH} (g : LV → Option LV) (h1 : evI T C src s L = .ok (xs, c) L1)
    (h2 : ∀ x ∈ xs, ∀ acc, cprB T C elt tg cond own s x (L1 ++ [.lst acc]) = .ok (g x) (L1 ++ [.lst acc])) (hc : ∀ acc, chkOk c (L1 ++ [.lst acc]) = true) (hb : xs.length ≤ big) :
    evE T C (.cpr elt tg src cond own) s L = .ok (.ref L1.length) (L1 ++ [.lst (xs.filterMap g)]) := by
  rw [evE_cpr, h1, R.bind_ok]
  have := cprL_go (f := cprB T C elt tg cond own s) (c := c) (d := L1.length) g xs [] (L1 ++ [.lst []]) (fun x hx acc => by rw [set_last]; exact h2 x hx acc) (by simp) (fun acc => by rw [set_last]; exact hc acc) (by simpa using hb)
  simp only [set_last, List.nil_append] at this
  rw [this, R.bind_ok]
/-- a comprehension whose turns are pure, frozen -/
theorem frz_cpr {elt : Ex} {tg : Tg} {src : It} {cond : Option Ex} {own : List Nat} {xs : List LV} (g : LV → Option LV) (h1 : evI T C src s L = .ok (xs, none) L)
    (h2 : ∀ x ∈ xs, ∀ L', cprB T C elt tg cond own s x L' = .ok (g x) L') (hb : xs.length ≤ big) (hn : clVs L.length (xs.filterMap g) = true) :
    evE T C (.frz (.cpr elt tg src cond own)) s L = .ok (.fl (xs.filterMap g)) L := by
  rw [evE_frz, cpr_ok g h1 (fun x hx acc => h2 x hx _) (fun _ => rfl) hb, R.bind_ok, fzV_lst hn]
/-- .. with the heap as it is known -/
theorem frz_cpr' {elt : Ex} {tg : Tg} {src : It} {cond : Option Ex} {own : List Nat} {xs : List LV} {c : Option (Nat × List LV)} (g : LV → Option LV) (h1 : evI T C src s L = .ok (xs, c) L)
    (h2 : ∀ x ∈ xs, ∀ acc, cprB T C elt tg cond own s x (L ++ [.lst acc]) = .ok (g x) (L ++ [.lst acc])) (hc : ∀ acc, chkOk c (L ++ [.lst acc]) = true) (hb : xs.length ≤ big) (hn : clVs L.length (xs.filterMap g) = true) :
    evE T C (.frz (.cpr elt tg src cond own)) s L = .ok (.fl (xs.filterMap g)) L := by
  rw [evE_frz, cpr_ok g h1 h2 hc hb, R.bind_ok, fzV_lst hn]
theorem cl_set {n : Nat} {L : LH} {j : Nat} {o : LO} (h : ClH n L) (ho : clO n o = true) : ClH n (L.set j o) := by
  intro i o' e
  by_cases hi : j = i
  · subst hi
    have hl : j < L.length := by have := (List.getElem?_eq_some_iff.mp e).1; simpa using this
    rw [List.getElem?_set_self hl] at e
    cases e
    exact ho
  · rw [List.getElem?_set_ne hi] at e
    exact h i o' e
end
/-! ### names -/
def strL (ns : List String) : List LV := ns.map .str
@[simp] theorem strL_len (ns : List String) : (strL ns).length = ns.length := List.length_map _
@[simp] theorem strL_nil : strL [] = [] := rfl
theorem strL_cons (a : String) (r : List String) : strL (a :: r) = .str a :: strL r := rfl
theorem strL_app (a b : List String) : strL (a ++ b) = strL a ++ strL b := List.map_append
@[simp] theorem strL_cl (n : Nat) : ∀ (ns : List String), clVs n (strL ns) = true
  | [] => rfl
  | a :: r => by simp [strL_cons, clVs, clV, strL_cl n r]
theorem strL_flat (ns : List String) : ∀ x ∈ strL ns, flatL x = true := by
  intro x hx
  obtain ⟨y, _, rfl⟩ := List.mem_map.mp hx
  rfl
theorem strL_any {ns : List String} {z : String} : ((strL ns).any fun y => eqL y (.str z)) = ns.contains z := by
  induction ns with
  | nil => rfl
  | cons a r ih =>
    simp only [strL_cons, List.any_cons, List.contains_cons] at ih ⊢
    rw [ih]
    congr 1
    simp only [eqL]
    exact Bool.beq_comm
theorem cmp_inn {L : LH} {v : LV} {ns : List String} {z : String} (hs : seqAt L v = some (strL ns)) : cmpV .inn (.str z) v L = some (ns.contains z) := by
  have : (strL ns).all flatL = true := List.all_eq_true.mpr (strL_flat ns)
  simp only [cmpV, hs]
  rw [if_pos ⟨rfl, this⟩, strL_any]
theorem cmp_nin {L : LH} {v : LV} {ns : List String} {z : String} (hs : seqAt L v = some (strL ns)) : cmpV .nin (.str z) v L = some (!ns.contains z) := by
  have : (strL ns).all flatL = true := List.all_eq_true.mpr (strL_flat ns)
  simp only [cmpV, hs]
  rw [if_pos ⟨rfl, this⟩, strL_any]
@[simp] theorem inn_fl {L : LH} {ns : List String} {z : String} : cmpV .inn (.str z) (.fl (strL ns)) L = some (ns.contains z) := cmp_inn rfl
@[simp] theorem inn_tup {L : LH} {ns : List String} {z : String} : cmpV .inn (.str z) (.tup (strL ns)) L = some (ns.contains z) := cmp_inn rfl
@[simp] theorem nin_fl {L : LH} {ns : List String} {z : String} : cmpV .nin (.str z) (.fl (strL ns)) L = some (!ns.contains z) := cmp_nin rfl
@[simp] theorem nin_tup {L : LH} {ns : List String} {z : String} : cmpV .nin (.str z) (.tup (strL ns)) L = some (!ns.contains z) := cmp_nin rfl
@[simp] theorem inn_last {L : LH} {ns : List String} {z : String} : cmpV .inn (.str z) (.ref L.length) (L ++ [.lst (strL ns)]) = some (ns.contains z) := cmp_inn (by simp [seqAt])
@[simp] theorem nin_last {L : LH} {ns : List String} {z : String} : cmpV .nin (.str z) (.ref L.length) (L ++ [.lst (strL ns)]) = some (!ns.contains z) := cmp_nin (by simp [seqAt])
@[simp] theorem eq_str {L : LH} {a b : String} : cmpV .eq (.str a) (.str b) L = some (a == b) := by simp [cmpV, toD, eqD]
@[simp] theorem ne_str {L : LH} {a b : String} : cmpV .ne (.str a) (.str b) L = some (!(a == b)) := by simp [cmpV, toD, eqD]
@[simp] theorem eq_int {L : LH} {a b : Int} : cmpV .eq (.int a) (.int b) L = some (a == b) := by simp [cmpV, toD, eqD]
@[simp] theorem ne_int {L : LH} {a b : Int} : cmpV .ne (.int a) (.int b) L = some (!(a == b)) := by simp [cmpV, toD, eqD]
theorem seq_ref {L : LH} {i : Nat} {xs : List LV} (h : L[i]? = some (.lst xs)) : seqAt L (.ref i) = some xs := by simp [seqAt, h]
/-- a filter over names -/
theorem fm_strs (f : String → Bool) {g : LV → Option LV} : ∀ ns : List String, (∀ z ∈ ns, g (.str z) = if f z = true then some (.str z) else none) → (strL ns).filterMap g = strL (ns.filter f)
  | [], _ => rfl
  | a :: r, h => by
    have ih := fm_strs f r fun z hz => h z (List.mem_cons_of_mem _ hz)
    simp only [strL, List.map_cons, List.filterMap_cons, List.filter_cons] at ih ⊢
    rw [h a List.mem_cons_self]
    cases f a
    · simpa using ih
    · simp [ih]
theorem filter_own {known : List String} {p : String → Bool} : known.filter (fun z => (known.filter p).contains z) = known.filter p := by
  apply List.filter_congr
  intro z hz
  cases hp : p z
  · have : z ∉ known.filter p := fun m => by
      have := (List.mem_filter.mp m).2
      rw [hp] at this; cases this
    simpa using this
  · have : z ∈ known.filter p := List.mem_filter.mpr ⟨hz, hp⟩
    simpa using this
def unS : List LV → Option (List String)
  | [] => some []
  | .str a :: r => (unS r).map (a :: ·)
  | _ => none
@[simp] theorem unS_strL : ∀ ns : List String, unS (strL ns) = some ns
  | [] => rfl
  | a :: r => by simp [strL_cons, unS, unS_strL r]
theorem of_unS : ∀ {xs : List LV} {ns : List String}, unS xs = some ns → xs = strL ns
  | [], ns, h => by simp [unS] at h; subst h; rfl
  | x :: r, ns, h => by
    cases x with
    | str a =>
      simp only [unS] at h
      obtain ⟨t, ht, rfl⟩ := Option.map_eq_some_iff.mp h
      rw [of_unS ht]; rfl
    | _ => simp [unS] at h
/-- a frozen list or a tuple of names -/
def namesOf : LV → Option (List String)
  | .fl xs => unS xs
  | .tup xs => unS xs
  | _ => none
@[simp] theorem namesOf_fl (ns : List String) : namesOf (.fl (strL ns)) = some ns := unS_strL ns
@[simp] theorem namesOf_tup (ns : List String) : namesOf (.tup (strL ns)) = some ns := unS_strL ns
theorem of_namesOf {v : LV} {ns : List String} (h : namesOf v = some ns) : v = .fl (strL ns) ∨ v = .tup (strL ns) := by
  cases v with
  | fl xs => left; rw [of_unS h]
  | tup xs => right; rw [of_unS h]
  | _ => cases h
/-- a comprehension that chooses names -/
theorem frz_strs {T : Tbl} {C : Orc} {s : Sl} {L : LH} {elt : Ex} {tg : Tg} {src : It} {cond : Option Ex} {own : List Nat} {ns : List String} (f : String → Bool) (h1 : evI T C src s L = .ok (strL ns, none) L)
    (h2 : ∀ z ∈ ns, ∀ L', cprB T C elt tg cond own s (.str z) L' = .ok (if f z = true then some (.str z) else none) L') (hb : ns.length ≤ big) :
    evE T C (.frz (.cpr elt tg src cond own)) s L = .ok (.fl (strL (ns.filter f))) L := by
  have e := fm_strs f (g := fun x => match x with | .str z => if f z = true then some (.str z) else none | _ => none) ns fun z _ => rfl
  have := frz_cpr (T := T) (C := C) (s := s) (L := L) (elt := elt) (tg := tg) (src := src) (cond := cond) (own := own) (xs := strL ns) (fun x => match x with | .str z => if f z = true then some (.str z) else none | _ => none) h1 (fun x hx L' => by
    obtain ⟨z, hz, rfl⟩ := List.mem_map.mp hx
    exact h2 z hz L') (by simpa using hb) (by rw [e]; exact strL_cl _ _)
  rw [e] at this
  exact this
theorem frz_strs' {T : Tbl} {C : Orc} {s : Sl} {L : LH} {elt : Ex} {tg : Tg} {src : It} {cond : Option Ex} {own : List Nat} {ns : List String} (f : String → Bool) (h1 : evI T C src s L = .ok (strL ns, none) L)
    (h2 : ∀ z ∈ ns, ∀ acc, cprB T C elt tg cond own s (.str z) (L ++ [.lst acc]) = .ok (if f z = true then some (.str z) else none) (L ++ [.lst acc])) (hb : ns.length ≤ big) :
    evE T C (.frz (.cpr elt tg src cond own)) s L = .ok (.fl (strL (ns.filter f))) L := by
  have e := fm_strs f (g := fun x => match x with | .str z => if f z = true then some (.str z) else none | _ => none) ns fun z _ => rfl
  have := frz_cpr' (T := T) (C := C) (s := s) (L := L) (elt := elt) (tg := tg) (src := src) (cond := cond) (own := own) (xs := strL ns) (c := none) (fun x => match x with | .str z => if f z = true then some (.str z) else none | _ => none) h1 (fun x hx acc => by
    obtain ⟨z, hz, rfl⟩ := List.mem_map.mp hx
    exact h2 z hz acc) (fun _ => rfl) (by simpa using hb) (by rw [e]; exact strL_cl _ _)
  rw [e] at this
  exact this
@[simp] theorem big_val : (big : Nat) = 1000000 := rfl
/-! ### chosen names in their order -/
def okN (known ns : List String) : Bool := decide (known.Nodup) && decide (known.length < 1000) && decide (ns.Nodup) && ns.all fun z => known.contains z
theorem okN_filter {known : List String} {p : String → Bool} (h : okN known known = true) : okN known (known.filter p) = true := by
  simp only [okN, Bool.and_eq_true, decide_eq_true_eq, List.all_eq_true] at h ⊢
  obtain ⟨⟨⟨h1, h2⟩, h3⟩, h4⟩ := h
  exact ⟨⟨⟨h1, h2⟩, h1.sublist List.filter_sublist⟩, fun z hz => h4 z (List.mem_filter.mp hz).1⟩
def ordF (known ns : List String) : List String := known.filter fun z => ns.contains z
theorem ordF_filter {known : List String} {p : String → Bool} : ordF known (known.filter p) = known.filter p := filter_own
theorem okN_len {known ns : List String} (h : okN known ns = true) : ns.length < 1000 := by
  simp only [okN, Bool.and_eq_true, decide_eq_true_eq, List.all_eq_true] at h
  obtain ⟨⟨⟨h1, h2⟩, h3⟩, h4⟩ := h
  have := List.subset_def.mpr (fun {z} (hz : z ∈ ns) => by simpa using h4 z hz : ∀ {z}, z ∈ ns → z ∈ known)
  have := h3.length_le_of_subset this
  omega
def pickBody (k : Ex) (c x : Nat) : List Sm := [.ite (.or (.cmp .nin (.var x) k) (.cmp .inn (.var x) (.var c))) [.rse] [],
    .exp (.mth (.var c) "append" [.var x] [])]
/-- the loop that takes names one by one -/
theorem pick_loop {T : Tbl} {C : Orc} {L : LH} {k : Ex} {known ns : List String} (sl : Option LV → Sl) {c x : Nat} (hs : ∀ y z, (sl y).set x z = sl z) (hx : ∀ y, x < (sl y).length) (hx2 : ∀ z, sget (sl (some z)) x = some z) (hc : ∀ y, sget (sl y) c = some (.ref L.length))
    (hk : ∀ y L', evE T C k (sl y) L' = .ok (.tup (strL known)) L') (ho : okN known ns = true) (y : Option LV) :
    SWp (forL (bodyF T C (.nm x) (pickBody k c x)) none (strL ns) (sl y) (L ++ [.lst []])) (fun s L' => (∃ y, s = sl y) ∧ L' = L ++ [.lst (strL ns)]) No No fun _ _ => False := by
  have hl := okN_len ho
  simp only [okN, Bool.and_eq_true, decide_eq_true_eq, List.all_eq_true] at ho
  obtain ⟨⟨⟨h1, h2⟩, h3⟩, h4⟩ := ho
  have := forL_ix (f := bodyF T C (.nm x) (pickBody k c x)) (c := none) (xs := strL ns) (R' := fun _ _ => False)
    (fun j s L' => (∃ y, s = sl y) ∧ L' = L ++ [.lst (strL (ns.take j))]) (fun _ _ _ _ => rfl) ?_
    (s := sl y) (L := L ++ [.lst []]) ⟨⟨y, rfl⟩, rfl⟩
  · refine this.mono (fun s L' h => ?_) (fun _ _ h => h) (fun _ _ h => h) (fun _ _ h => h)
    obtain ⟨h1, h2⟩ := h
    refine ⟨h1, ?_⟩
    rw [h2, List.take_of_length_le (by simp)]
  · rintro j v hv s L' ⟨⟨z, rfl⟩, rfl⟩
    simp only [strL, List.getElem?_map] at hv
    obtain ⟨w, hw, rfl⟩ := Option.map_eq_some_iff.mp hv
    have hwm : w ∈ ns := List.mem_of_getElem? hw
    have hj : j < ns.length := (List.getElem?_eq_some_iff.mp hw).1
    have hkn : known.contains w = true := h4 w hwm
    have hnot : (ns.take j).contains w = false := by
      rw [← Bool.not_eq_true]
      intro hm
      have hm : w ∈ ns.take j := by simpa using hm
      obtain ⟨q, hq, e⟩ := List.mem_iff_getElem.mp hm
      rw [List.getElem_take] at e
      have hq2 : q < j := by rw [List.length_take] at hq; omega
      have e2 : ns[j] = w := (List.getElem?_eq_some_iff.mp hw).2
      have := (List.getElem_inj h3).mp (e.trans e2.symm)
      omega
    have hlen : (strL (ns.take j)).length < big := by simp [List.length_take]; omega
    refine SWp_body ?_
    simp only [pickBody, evG_nm, hx, hs, if_true, RWp_ok]
    refine SWp_cons ?_
    simp only [evS_ite', evE_or, evE_cmp, evE_var, hx2, hc, hk, R.of_some, R.bind_ok, cmpO_tup, cmpO_ref, nin_tup, inn_last, hkn, hnot, Option.map_some, asB_bl, Bool.not_true, Bool.false_eq_true, if_false, R.toS_ok, SWp_toS, RWp_ok, evSs_nil, SWp_nx]
    refine SWp_cons ?_
    simp only [evS_exp, evE_mth, evE_var, hc, hx2, R.of_some, R.bind_ok, mthV_last, evEs_cons, evEs_nil, lmV, appendV, get_last, hlen, if_true, set_last, R.toS_ok, SWp_nx, evSs_nil]
    refine ⟨⟨_, rfl⟩, ?_⟩
    simp [strL, List.take_succ, hw]
def F_on : Fn := ⟨2, 4, [.asg (.nm 2) (.lst []),
    .for (.nm 3) (.of (.var 0)) (pickBody (.var 1) 2 3),
    .ret (.blt "tuple" [.frz (.cpr (.var 3) (.nm 3) (.of (.var 1)) (some (.cmp .inn (.var 3) (.var 2))) [3])])]⟩
def S_on (args : List LV) (L : LH) : R LV := match args with
  | [v, .tup ks] => match namesOf v, unS ks with
    | some ns, some known => if okN known ns = true then .ok (.tup (strL (ordF known ns))) L else .stuck
    | _, _ => .stuck
  | _ => .stuck
@[simp] theorem S_on_fl {known ns : List String} {L : LH} : S_on [.fl (strL ns), .tup (strL known)] L = if okN known ns = true then .ok (.tup (strL (ordF known ns))) L else .stuck := by simp [S_on]
@[simp] theorem S_on_tup {known ns : List String} {L : LH} : S_on [.tup (strL ns), .tup (strL known)] L = if okN known ns = true then .ok (.tup (strL (ordF known ns))) L else .stuck := by simp [S_on]
section
variable {T : Tbl} {C : Orc} {L : LH}
theorem itV_names {v : LV} {ns : List String} (h : namesOf v = some ns) : itV v L = .ok (strL ns, none) L := by
  rcases of_namesOf h with rfl | rfl <;> rfl
theorem meets_on : Meets (evF T C F_on) S_on := by
  intro args L r2 L2 hL ha h
  unfold S_on at h
  split at h
  · rename_i v ks
    split at h
    · rename_i ns known hn hk
      split at h
      · rename_i ho
        cases h
        have e1 := of_unS hk
        subst e1
        have hl := okN_len ho
        have hkl : known.length < 1000 := by
          simp only [okN, Bool.and_eq_true, decide_eq_true_eq] at ho
          exact ho.1.1.2
        have lp := pick_loop (T := T) (C := C) (L := L) (k := .var 1) (known := known) (ns := ns) (fun y => [some v, some (.tup (strL known)), some (.ref L.length), y]) (c := 2) (x := 3) (fun _ _ => rfl) (fun _ => by simp) (fun _ => rfl) (fun _ => rfl) (fun _ _ => by simp [sget]) ho none
        have go : SWp (evSs T C F_on.body [some v, some (.tup (strL known)), none, none] L) No No No fun r L' => r = .tup (strL (ordF known ns)) ∧ ∃ Gb : LH, L' = L ++ Gb := by
          simp only [F_on]
          refine SWp_cons ?_
          simp
          refine SWp_cons ?_
          simp only [evS_for, evI_of, evE_var, sget, List.getElem?_cons_zero, R.of_some, R.bind_ok, itV_names hn, R.toS_ok]
          refine lp.mono ?_ (fun _ _ h => h) (fun _ _ h => h) (fun _ _ h => h.elim)
          rintro s' L' ⟨⟨y, rfl⟩, rfl⟩
          have hc := frz_strs' (T := T) (C := C) (L := L ++ [.lst (strL ns)]) (elt := .var 3) (tg := .nm 3) (src := .of (.var 1)) (cond := some (.cmp .inn (.var 3) (.var 2))) (own := [3]) (s := [some v, some (.tup (strL known)), some (.ref L.length), y]) (ns := known)
            (fun z => ns.contains z) (by simp [sget, itV]) (fun z hz acc => by
              have : cmpV .inn (.str z) (.ref L.length) ((L ++ [.lst (strL ns)]) ++ [.lst acc]) = some (ns.contains z) := cmp_inn (seq_ref (get_lt get_last))
              simp only [cprB, wipeL, evG_nm, List.length_cons, List.length_nil, List.set_cons_succ, List.set_cons_zero, Nat.reduceAdd, Nat.reduceLT, if_true, R.bind_ok, evC_some, evE_cmp, evE_var, sget, List.getElem?_cons_succ, List.getElem?_cons_zero, R.of_some, cmpO_ref, this, Option.map_some, asB_bl]
              cases ns.contains z <;> rfl) (by simp; omega)
          refine SWp_cons ?_
          simp only [evS_ret, evE_blt, evEs_cons, evEs_nil, hc, R.bind_ok, bltV, tupV, seqAt, R.toS_ok, SWp_rt]
          exact ⟨rfl, [.lst (strL ns)], rfl⟩
        obtain ⟨r, L', e1, rfl, Gb, rfl⟩ := evF_go (f := F_on) (vs := [v, .tup (strL known)]) rfl go
        exact ⟨_, _, e1, Sim.drop hL (by simp [clV])⟩
      · cases h
    · cases h
  · cases h
end
/-! ### objects that hold chosen names -/
def mkO (K : String) (ns : List String) : LO := .ins K [("names", .tup (strL ns))]
def obN (K : String) (ns : List String) : LV := .ob K ["names"] [.tup (strL ns)]
@[simp] theorem obN_cl (K : String) (ns : List String) (n : Nat) : clV n (obN K ns) = true := by simp [obN, clV, clVs]
theorem mkO_cl (K : String) (ns : List String) (n : Nat) : clO n (mkO K ns) = true := by simp [mkO, clO, clFs, clV]
@[simp] theorem fld_obN {K : String} {ns : List String} {L : LH} : fldV (obN K ns) "names" L = .ok (.tup (strL ns)) L := by simp [obN, fldV, getO]
def F_has : Fn := ⟨2, 2, [.ret (.cmp .inn (.var 1) (.fld (.var 0) "names"))]⟩
def S_has (args : List LV) (L : LH) : R LV := match args with
  | [.ob _ ["names"] [.tup xs], .str x] => match unS xs with
    | some ns => .ok (.bl (ns.contains x)) L
    | none => .stuck
  | _ => .stuck
@[simp] theorem S_has_eq {L : LH} {K : String} {ns : List String} {x : String} : S_has [obN K ns, .str x] L = .ok (.bl (ns.contains x)) L := by simp [S_has, obN]
section
variable {T : Tbl} {C : Orc}
theorem meets_has : Meets (evF T C F_has) S_has := by
  intro args L r2 L2 hL ha h
  unfold S_has at h
  split at h
  · rename_i K xs x
    split at h
    · rename_i ns hn
      cases h
      have e1 := of_unS hn
      subst e1
      have e : evSs T C F_has.body [some (.ob K ["names"] [.tup (strL ns)]), some (.str x)] L = .rt (.bl (ns.contains x)) L := by
        simp [F_has, evSs_cons, sget, fldV, getO]
      exact ⟨_, _, evF_rt rfl e, Sim.refl hL rfl (Nat.le_refl _)⟩
    · cases h
  · cases h
/-- self.names = ordered_names(names, R) -/
def F_init (R : String) : Fn := ⟨2, 2, [.asg (.fld (.var 0) "names") (.call "ordered_names" [.var 1, .glo R] [])]⟩
def S_init (known : List String) (args : List LV) (L : LH) : R LV := match args with
  | [.ref j, v] => match L[j]?, namesOf v with
    | some (.ins K []), some ns => if okN known ns = true then .ok .non (L.set j (mkO K (ordF known ns))) else .stuck
    | _, _ => .stuck
  | _ => .stuck
theorem meets_init {R : String} {known : List String} (hT : T.glob R = some (.tup (strL known))) (hC : C "ordered_names" = S_on) : Meets (evF T C (F_init R)) (S_init known) := by
  intro args L r2 L2 hL ha h
  unfold S_init at h
  split at h
  · rename_i j v
    split at h
    · rename_i K ns hj hn
      split at h
      · rename_i ho
        cases h
        have hS : S_on [v, .tup (strL known)] L = .ok (.tup (strL (ordF known ns))) L := by simp [S_on, hn, ho]
        have e : evSs T C (F_init R).body [some (.ref j), some v] L = .nx [some (.ref j), some v] (L.set j (mkO K (ordF known ns))) := by
          simp [F_init, evSs_cons, sget, hT, hC, hS, hj, putFL, mkO]
        exact ⟨_, _, evF_nx rfl e, Sim.refl (by rw [List.length_set]; exact cl_set hL (mkO_cl _ _ _)) rfl (by rw [List.length_set]; exact Nat.le_refl _)⟩
      · cases h
    · cases h
  · cases h
def F_pinit : Fn := ⟨2, 4, [.asg (.nm 2) (.lst []),
    .for (.nm 3) (.of (.var 1)) (pickBody (.glo "RULES") 2 3),
    .asg (.fld (.var 0) "names") (.blt "tuple" [.frz (.cpr (.var 3) (.nm 3) (.of (.glo "RULES")) (some (.cmp .inn (.var 3) (.var 2))) [3])])]⟩
theorem meets_pinit {known : List String} (hT : T.glob "RULES" = some (.tup (strL known))) : Meets (evF T C F_pinit) (S_init known) := by
  intro args L r2 L2 hL ha h
  unfold S_init at h
  split at h
  · rename_i j v
    split at h
    · rename_i K ns hj hn
      split at h
      · rename_i ho
        cases h
        have hl := okN_len ho
        have hkl : known.length < 1000 := by
          simp only [okN, Bool.and_eq_true, decide_eq_true_eq] at ho
          exact ho.1.1.2
        have hjl : j < L.length := (List.getElem?_eq_some_iff.mp hj).1
        have lp := pick_loop (T := T) (C := C) (L := L) (k := .glo "RULES") (known := known) (ns := ns) (fun y => [some (.ref j), some v, some (.ref L.length), y]) (c := 2) (x := 3) (fun _ _ => rfl) (fun _ => by simp) (fun _ => rfl) (fun _ => rfl) (fun _ _ => by simp [hT]) ho none
        have go : SWp (evSs T C F_pinit.body [some (.ref j), some v, none, none] L) (fun _ L' => ∃ Gb : LH, L' = L.set j (mkO K (ordF known ns)) ++ Gb) No No fun _ _ => False := by
          simp only [F_pinit]
          refine SWp_cons ?_
          simp
          refine SWp_cons ?_
          simp only [evS_for, evI_of, evE_var, sget, List.getElem?_cons_succ, List.getElem?_cons_zero, R.of_some, R.bind_ok, itV_names hn, R.toS_ok]
          refine lp.mono ?_ (fun _ _ h => h) (fun _ _ h => h) (fun _ _ h => h.elim)
          rintro s' L' ⟨⟨y, rfl⟩, rfl⟩
          have hc := frz_strs' (T := T) (C := C) (L := L ++ [.lst (strL ns)]) (elt := .var 3) (tg := .nm 3) (src := .of (.glo "RULES")) (cond := some (.cmp .inn (.var 3) (.var 2))) (own := [3]) (s := [some (.ref j), some v, some (.ref L.length), y]) (ns := known)
            (fun z => ns.contains z) (by simp [hT, itV]) (fun z hz acc => by
              have : cmpV .inn (.str z) (.ref L.length) ((L ++ [.lst (strL ns)]) ++ [.lst acc]) = some (ns.contains z) := cmp_inn (seq_ref (get_lt get_last))
              simp only [cprB, wipeL, evG_nm, List.length_cons, List.length_nil, List.set_cons_succ, List.set_cons_zero, Nat.reduceAdd, Nat.reduceLT, if_true, R.bind_ok, evC_some, evE_cmp, evE_var, sget, List.getElem?_cons_succ, List.getElem?_cons_zero, R.of_some, cmpO_ref, this, Option.map_some, asB_bl]
              cases ns.contains z <;> rfl) (by simp; omega)
          refine SWp_cons ?_
          have hj2 : (L ++ [LO.lst (strL ns)])[j]? = some (.ins K []) := get_lt hj
          simp only [evS_asg, evE_blt, evEs_cons, evEs_nil, hc, R.bind_ok, bltV, tupV, seqAt, evG_fld, evE_var, sget, List.getElem?_cons_zero, R.of_some, hj2]
          rw [if_pos (by decide)]
          simp only [R.toS_ok, SWp_nx, evSs_nil, putFL]
          refine ⟨[.lst (strL ns)], ?_⟩
          rw [List.set_append_left _ _ hjl]
          rfl
        have e : ∃ Gb : LH, evF T C F_pinit [.ref j, v] L = .ok .non (L.set j (mkO K (ordF known ns)) ++ Gb) := by
          have hr' : ∀ r, evSs T C F_pinit.body ([LV.ref j, v].map some ++ List.replicate (F_pinit.slots - [LV.ref j, v].length) none) L = r → evSs T C F_pinit.body [some (.ref j), some v, none, none] L = r := fun r h => h
          cases hr : evSs T C F_pinit.body ([LV.ref j, v].map some ++ List.replicate (F_pinit.slots - [LV.ref j, v].length) none) L with
          | nx s' L' => rw [hr' _ hr] at go; obtain ⟨Gb, rfl⟩ := go; exact ⟨Gb, evF_nx rfl hr⟩
          | _ => rw [hr' _ hr] at go; exact go.elim
        obtain ⟨Gb, e⟩ := e
        refine ⟨_, _, e, ?_⟩
        have := Sim.drop (L := L.set j (mkO K (ordF known ns))) (G := Gb) (r := .non) (by rw [List.length_set]; exact cl_set hL (mkO_cl _ _ _)) rfl
        rw [List.length_set] at this
        exact this
      · cases h
    · cases h
  · cases h
/-- an object made and frozen -/
theorem frz_new {K : String} {xs : List Ex} {s : Sl} {L : LH} {v : LV} {known ns : List String} (h1 : evEs T C xs s L = .ok [v] L) (hC : C (K ++ ".__init__") = S_init known) (hn : namesOf v = some ns) (ho : okN known ns = true) :
    evE T C (.frz (.new K xs [])) s L = .ok (obN K (ordF known ns)) L := by
  have hS : S_init known [.ref L.length, v] (L ++ [.ins K []]) = .ok .non (L ++ [mkO K (ordF known ns)]) := by simp [S_init, hn, ho]
  simp only [evE_frz, evE_new, h1, R.bind_ok, List.append_nil, hC, hS, if_true]
  rw [mkO, fzV_ins (by simp [clFs, clV])]
  rfl
end
end G
set_option Elab.async false
set_option linter.all false
set_option maxRecDepth 100000
set_option maxHeartbeats 4000000
/-! G17: rules of policies and carries: what is missing; the laws' own lists. -/
namespace G
open PySem
def crules : List String := ["cells", "pages", "rights", "written", "counter", "registers", "flags", "level", "enabled", "pending", "saved", "halted", "second", "flush_values", "tell_values", "drain_stores", "tell_stores", "entries"]
def srules : List String := ["cells", "pages", "rights", "written", "counter", "registers", "flags", "level", "enabled", "pending", "saved", "halted", "second"]
def prules : List String := ["invalidate_store", "invalidate_device", "track_frames", "track_prepared", "track_second", "invalidate_map", "invalidate_rights", "key_level", "leave_self", "leave_other", "cut_links", "clear_links", "hold_slot", "check_entry", "stop_page", "stop_store", "no_links", "single", "eager", "flush_exit", "flush_source", "keep_dropped", "map_inspect", "map_fault", "flush_fault", "map_leave", "prompt_store", "poll_entry", "poll_backward"]
theorem ok1 : okN crules crules = true := by decide +kernel
theorem ok2 : okN prules prules = true := by decide +kernel
def F_has_one : Fn := ⟨2, 3, [.ret (.blt "any" [.frz (.cpr (.mth (.var 0) "has" [.var 2] []) (.nm 2) (.of (.var 1)) none [2])])]⟩
def F_defers : Fn := ⟨1, 1, [.ret (.not (.call "has_one" [.var 0, .tup [.con (.str "eager"), .con (.str "single")]] []))]⟩
def F_buffers : Fn := ⟨1, 1, [.ret (.not (.call "has_one" [.var 0, .tup [.con (.str "prompt_store"), .con (.str "single"), .con (.str "stop_store")]] []))]⟩
def F_state : Fn := ⟨1, 2, [.ret (.blt "tuple" [.frz (.cpr (.var 1) (.nm 1) (.of (.glo "STATE_RULES")) (some (.or (.var 0) (.cmp .ne (.var 1) (.con (.str "written"))))) [1])])]⟩
def F_missing : Fn := ⟨3, 5, [.asg (.nm 3) (.cpr (.var 4) (.nm 4) (.of (.call "state_rules" [.var 2] [])) (some (.not (.mth (.var 0) "has" [.var 4] []))) [4]),
    .ite (.and (.call "defers_values" [.var 1] []) (.not (.call "has_one" [.var 0, .glo "VALUE_WAYS"] []))) [.exp (.mth (.var 3) "append" [.con (.str "values")] [])] [],
    .ite (.and (.call "buffers_stores" [.var 1] []) (.not (.call "has_one" [.var 0, .glo "STORE_WAYS"] []))) [.exp (.mth (.var 3) "append" [.con (.str "stores")] [])] [],
    .ret (.blt "tuple" [.var 3])]⟩
def F_iswhole : Fn := ⟨3, 3, [.ret (.cmp .eq (.blt "len" [.calk "missing_parts" [.var 0, .var 1] ["device"] [.var 2] []]) (.con (.int 0)))]⟩
def F_lrules : Fn := ⟨0, 1, [.asg (.nm 0) (.con (.str "invalidate_store invalidate_device track_frames track_prepared track_second invalidate_map")),
    .asg (.nm 0) (.bin .add (.var 0) (.con (.str " invalidate_rights key_level leave_self leave_other cut_links clear_links hold_slot check_entry"))),
    .asg (.nm 0) (.bin .add (.var 0) (.con (.str " stop_page stop_store no_links single eager flush_exit flush_source keep_dropped map_inspect"))),
    .asg (.nm 0) (.bin .add (.var 0) (.con (.str " map_fault flush_fault map_leave prompt_store poll_entry poll_backward"))),
    .ret (.frz (.mth (.var 0) "split" [.con (.str " ")] []))]⟩
def F_lcrules : Fn := ⟨0, 1, [.asg (.nm 0) (.con (.str "cells pages rights written counter registers flags level enabled pending saved halted second")),
    .asg (.nm 0) (.bin .add (.var 0) (.con (.str " flush_values tell_values drain_stores tell_stores entries"))),
    .ret (.frz (.mth (.var 0) "split" [.con (.str " ")] []))]⟩
def F_lany : Fn := ⟨2, 5, [.asg (.nm 2) (.call "_law_rules" [] []),
    .asg (.nm 3) (.idx (.frz (.lst [.con (.int 7), .con (.int 3), .con (.int 11), .con (.int 7)])) (.bin .mod (.blt "int" [.call "_law_digit" [.var 0, .var 1] []]) (.con (.int 4)))),
    .ret (.frz (.cpr (.idx (.var 2) (.var 4)) (.nm 4) (.rng [.con (.int 29)]) (some (.cmp .gt (.bin .mod (.blt "int" [.bin .add (.bin .add (.call "_law_digit" [.var 0, .bin .add (.bin .add (.var 1) (.con (.int 1))) (.var 4)] []) (.bin .mul (.con (.int 5)) (.var 4))) (.con (.int 4))]) (.con (.int 16))) (.var 3))) [4]))]⟩
def F_lsome : Fn := ⟨2, 5, [.asg (.nm 2) (.call "_law_carry_rules" [] []),
    .asg (.nm 3) (.idx (.frz (.lst [.con (.int 12), .con (.int 15), .con (.int 7), .con (.int 14)])) (.bin .mod (.blt "int" [.call "_law_digit" [.var 0, .var 1] []]) (.con (.int 4)))),
    .ret (.frz (.cpr (.idx (.var 2) (.var 4)) (.nm 4) (.rng [.con (.int 18)]) (some (.cmp .lt (.bin .mod (.blt "int" [.bin .add (.call "_law_digit" [.var 0, .bin .add (.bin .add (.var 1) (.con (.int 1))) (.var 4)] []) (.bin .mul (.con (.int 3)) (.var 4))]) (.con (.int 16))) (.var 3))) [4]))]⟩
def F_lmissing : Fn := ⟨3, 5, [.asg (.nm 3) (.cpr (.var 4) (.nm 4) (.of (.frz (.slc (.call "_law_carry_rules" [] []) none (some (.con (.int 13)))))) (some (.and (.cmp .nin (.var 4) (.var 0)) (.or (.var 2) (.cmp .ne (.var 4) (.con (.str "written")))))) [4]),
    .ite (.and (.cmp .nin (.con (.str "eager")) (.var 1)) (.cmp .nin (.con (.str "single")) (.var 1))) [.ite (.and (.cmp .nin (.con (.str "flush_values")) (.var 0)) (.cmp .nin (.con (.str "tell_values")) (.var 0))) [.exp (.mth (.var 3) "append" [.con (.str "values")] [])] []] [],
    .ite (.and (.cmp .nin (.con (.str "prompt_store")) (.var 1)) (.and (.cmp .nin (.con (.str "single")) (.var 1)) (.cmp .nin (.con (.str "stop_store")) (.var 1)))) [.ite (.and (.cmp .nin (.con (.str "drain_stores")) (.var 0)) (.cmp .nin (.con (.str "tell_stores")) (.var 0))) [.exp (.mth (.var 3) "append" [.con (.str "stores")] [])] []] [],
    .ret (.var 3)]⟩
def F_pick : Fn := ⟨3, 4, [.asg (.nm 3) (.con (.int 0)),
    .ite (.cmp .lt (.var 1) (.blt "len" [.var 0])) [.asg (.nm 3) (.idx (.var 0) (.var 1))] [],
    .ite (.cmp .lt (.bin .add (.var 1) (.con (.int 1))) (.blt "len" [.var 0])) [.asg (.nm 3) (.bin .add (.var 3) (.bin .mul (.con (.int 16)) (.idx (.var 0) (.bin .add (.var 1) (.con (.int 1))))))] [],
    .ret (.bin .mod (.blt "int" [.var 3]) (.var 2))]⟩
/-- [.. any of the names is held] -/
def S_has_one (args : List LV) (L : LH) : R LV := match args with
  | [.ob K ["names"] [.tup ks], .tup xs] => match unS ks, unS xs with
    | some ns, some zs => if (K = "Carry" ∨ K = "Policy") ∧ zs.length < 1000 then .ok (.bl (zs.any fun z => ns.contains z)) L else .stuck
    | _, _ => .stuck
  | _ => .stuck
theorem S_has_one_c {ns zs : List String} {L : LH} (h : zs.length < 1000) : S_has_one [obN "Carry" ns, .tup (strL zs)] L = .ok (.bl (zs.any fun z => ns.contains z)) L := by simp [S_has_one, obN, h]
theorem S_has_one_p {ns zs : List String} {L : LH} (h : zs.length < 1000) : S_has_one [obN "Policy" ns, .tup (strL zs)] L = .ok (.bl (zs.any fun z => ns.contains z)) L := by simp [S_has_one, obN, h]
theorem bools_map (bs : List Bool) : boolsL (bs.map .bl) = some bs := by
  induction bs with
  | nil => rfl
  | cons a r ih => simp [boolsL, ih]
theorem bls_cl (n : Nat) (bs : List Bool) : clVs n (bs.map .bl) = true := by
  induction bs with
  | nil => rfl
  | cons a r ih => simp [clVs, clV, ih]
theorem m_has_one {T C} (h1 : C "Carry.has" = S_has) (h2 : C "Policy.has" = S_has) : Meets (evF T C F_has_one) S_has_one := by
  intro args L r2 L2 hL ha h
  unfold S_has_one at h
  split at h
  · rename_i K ks xs
    split at h
    · rename_i ns zs e1 e2
      split at h
      · rename_i hc
        obtain ⟨hK, hl⟩ := hc
        cases h
        have e1 := of_unS e1
        have e2 := of_unS e2
        subst e1 e2
        have hC : C (K ++ "." ++ "has") = S_has := by rcases hK with rfl | rfl; exact h1; exact h2
        have e : evE T C (.frz (.cpr (.mth (.var 0) "has" [.var 2] []) (.nm 2) (.of (.var 1)) none [2])) [some (obN K ns), some (.tup (strL zs)), none] L = .ok (.fl ((zs.map fun z => ns.contains z).map .bl)) L := by
          have e0 : (strL zs).filterMap (fun x => match x with | .str z => some (LV.bl (ns.contains z)) | _ => none) = (zs.map fun z => ns.contains z).map .bl := by
            clear h1 h2 hC e1 e2 ha hl
            induction zs with
            | nil => rfl
            | cons a r ih => simp only [strL_cons, List.filterMap_cons, List.map_cons, ih]
          rw [frz_cpr (xs := strL zs) (fun x => match x with | .str z => some (LV.bl (ns.contains z)) | _ => none) (by simp [sget, itV]) (fun x hx L' => ?_) (by simp; omega) (by rw [e0]; exact bls_cl _ _), e0]
          obtain ⟨z, _, rfl⟩ := List.mem_map.mp hx
          simp only [cprB, wipeL, evG_nm, List.length_cons, List.length_nil, List.set_cons_succ, List.set_cons_zero, Nat.reduceAdd, Nat.reduceLT, if_true, R.bind_ok, evC_none, evE_mth, evE_var, sget, List.getElem?_cons_succ, List.getElem?_cons_zero, R.of_some]
          show ((mthV T C "has" [.var 2] [] [some (obN K ns), some (.tup (strL zs)), some (.str z)] (.ob K ["names"] [.tup (strL ns)]) L').bind _) = _
          have := S_has_eq (L := L') (K := K) (ns := ns) (x := z)
          simp only [obN] at this
          simp [getO, sget, hC, this]
        have e' : evSs T C F_has_one.body [some (obN K ns), some (.tup (strL zs)), none] L = .rt (.bl (zs.any fun z => ns.contains z)) L := by
          simp only [F_has_one, evSs_cons, evS_ret, evE_blt, evEs_cons, evEs_nil, e, R.bind_ok, bltV, anyV, lstAt, Option.bind_some, bools_map, Option.map_some, R.of_some, R.toS_ok, SR.bind_rt, List.any_map]
          rfl
        exact ⟨_, _, evF_rt rfl e', Sim.refl hL rfl (Nat.le_refl _)⟩
      · cases h
    · cases h
  · cases h
def S_ask (f : List String → Bool) (args : List LV) (L : LH) : R LV := match args with
  | [.ob "Policy" ["names"] [.tup ks]] => match unS ks with
    | some ns => .ok (.bl (f ns)) L
    | none => .stuck
  | _ => .stuck
@[simp] theorem S_ask_eq {f : List String → Bool} {ns : List String} {L : LH} : S_ask f [obN "Policy" ns] L = .ok (.bl (f ns)) L := by simp [S_ask, obN]
def defF (ps : List String) : Bool := !(["eager", "single"].any fun z => ps.contains z)
def bufF (ps : List String) : Bool := !(["prompt_store", "single", "stop_store"].any fun z => ps.contains z)
theorem m_def {T C} (h : C "has_one" = S_has_one) : Meets (evF T C F_defers) (S_ask defF) := by
  intro args L r2 L2 hL ha h
  unfold S_ask at h
  split at h
  · rename_i ks
    split at h
    · rename_i ns e1
      cases h
      have e1 := of_unS e1
      subst e1
      have hs := S_has_one_p (ns := ns) (zs := ["eager", "single"]) (L := L) (by decide)
      simp only [obN, strL_cons, strL_nil] at hs
      have e : evSs T C F_defers.body [some (obN "Policy" ns)] L = .rt (.bl (defF ns)) L := by
        simp [F_defers, evSs_cons, sget, obN, h, hs, defF]
      exact ⟨_, _, evF_rt rfl e, Sim.refl hL rfl (Nat.le_refl _)⟩
    · cases h
  · cases h
theorem m_buf {T C} (h : C "has_one" = S_has_one) : Meets (evF T C F_buffers) (S_ask bufF) := by
  intro args L r2 L2 hL ha h
  unfold S_ask at h
  split at h
  · rename_i ks
    split at h
    · rename_i ns e1
      cases h
      have e1 := of_unS e1
      subst e1
      have hs := S_has_one_p (ns := ns) (zs := ["prompt_store", "single", "stop_store"]) (L := L) (by decide)
      simp only [obN, strL_cons, strL_nil] at hs
      have e : evSs T C F_buffers.body [some (obN "Policy" ns)] L = .rt (.bl (bufF ns)) L := by
        simp [F_buffers, evSs_cons, sget, obN, h, hs, bufF]
      exact ⟨_, _, evF_rt rfl e, Sim.refl hL rfl (Nat.le_refl _)⟩
    · cases h
  · cases h
def stateF (d : Bool) : List String := srules.filter fun z => d || !(z == "written")
def S_state (args : List LV) (L : LH) : R LV := match args with
  | [.bl d] => .ok (.tup (strL (stateF d))) L
  | _ => .stuck
theorem m_state {T C} (hT : T.glob "STATE_RULES" = some (.tup (strL srules))) : Meets (evF T C F_state) S_state := by
  intro args L r2 L2 hL ha h
  unfold S_state at h
  split at h
  · rename_i d
    cases h
    have e := frz_strs (T := T) (C := C) (L := L) (elt := .var 1) (tg := .nm 1) (src := .of (.glo "STATE_RULES")) (cond := some (.or (.var 0) (.cmp .ne (.var 1) (.con (.str "written"))))) (own := [1]) (s := [some (.bl d), none]) (ns := srules)
      (fun z => d || !(z == "written")) (by simp [hT, itV]) (fun z hz L' => by
        simp only [cprB, wipeL, evG_nm, List.length_cons, List.length_nil, List.set_cons_succ, List.set_cons_zero, Nat.reduceAdd, Nat.reduceLT, if_true, R.bind_ok, evC_some, evE_or, evE_cmp, evE_var, evE_con, sget, List.getElem?_cons_succ, List.getElem?_cons_zero, R.of_some, cmpO_str, ne_str, Option.map_some, asB_bl]
        cases d <;> cases (z == "written") <;> rfl) (by decide)
    have e' : evSs T C F_state.body [some (.bl d), none] L = .rt (.tup (strL (stateF d))) L := by
      simp only [F_state, evSs_cons, evS_ret, evE_blt, evEs_cons, evEs_nil, e, R.bind_ok, bltV, tupV, seqAt, R.toS_ok, SR.bind_rt]
      rfl
    exact ⟨_, _, evF_rt rfl e', Sim.refl hL (by simp [clV]) (Nat.le_refl _)⟩
  · cases h
end G
set_option Elab.async false
set_option linter.all false
set_option maxRecDepth 100000
set_option maxHeartbeats 4000000
/-! G18: what a carry lacks, by the program and by the law. -/
namespace G
open PySem
theorem cpr_strs {T : Tbl} {C : Orc} {s : Sl} {L : LH} {elt : Ex} {tg : Tg} {src : It} {cond : Option Ex} {own : List Nat} {ns : List String} (f : String → Bool) (h1 : evI T C src s L = .ok (strL ns, none) L)
    (h2 : ∀ z ∈ ns, ∀ L', cprB T C elt tg cond own s (.str z) L' = .ok (if f z = true then some (.str z) else none) L') (hb : ns.length ≤ big) :
    evE T C (.cpr elt tg src cond own) s L = .ok (.ref L.length) (L ++ [.lst (strL (ns.filter f))]) := by
  have := cpr_ok (T := T) (C := C) (s := s) (L := L) (L1 := L) (elt := elt) (tg := tg) (src := src) (cond := cond) (own := own) (xs := strL ns) (c := none) (fun x => match x with | .str z => if f z = true then some (.str z) else none | _ => none) h1 (fun x hx acc => by
    obtain ⟨z, hz, rfl⟩ := List.mem_map.mp hx
    exact h2 z hz _) (fun _ => rfl) (by simpa using hb)
  rw [fm_strs f ns fun z _ => rfl] at this
  exact this
def missF (cs ps : List String) (d : Bool) : List String := (stateF d).filter (fun z => !cs.contains z) ++
  (if defF ps && !(["flush_values", "tell_values"].any fun z => cs.contains z) then ["values"] else []) ++
  (if bufF ps && !(["drain_stores", "tell_stores"].any fun z => cs.contains z) then ["stores"] else [])
theorem stateF_len (d : Bool) : (stateF d).length ≤ 13 := Nat.le_trans (List.length_filter_le _ _) (by decide)
theorem missF_len (cs ps : List String) (d : Bool) : (missF cs ps d).length ≤ 15 := by
  have h1 := stateF_len d
  have h2 := List.length_filter_le (fun z => !cs.contains z) (stateF d)
  unfold missF
  rw [List.length_append, List.length_append]
  have h3 : ∀ (b : Bool) (x : String), (if b then [x] else [] : List String).length ≤ 1 := by intro b x; cases b <;> simp
  have h4 := h3 (defF ps && !(["flush_values", "tell_values"].any fun z => cs.contains z)) "values"
  have h5 := h3 (bufF ps && !(["drain_stores", "tell_stores"].any fun z => cs.contains z)) "stores"
  omega
/-- a text is put behind the last list -/
theorem app_last {L : LH} {ms : List String} {w : String} (h : ms.length < 1000) : lmV "append" (.ref L.length) [.str w] (L ++ [.lst (strL ms)]) = .ok .non (L ++ [.lst (strL (ms ++ [w]))]) := by
  simp only [lmV, appendV, get_last, strL_len, big_val]
  rw [if_pos (by omega), set_last]
  simp [strL]
def S_miss (args : List LV) (L : LH) : R LV := match args with
  | [.ob "Carry" ["names"] [.tup cs], .ob "Policy" ["names"] [.tup ps], .bl d] => match unS cs, unS ps with
    | some cs, some ps => .ok (.tup (strL (missF cs ps d))) L
    | _, _ => .stuck
  | _ => .stuck
@[simp] theorem S_miss_eq {cs ps : List String} {d : Bool} {L : LH} : S_miss [obN "Carry" cs, obN "Policy" ps, .bl d] L = .ok (.tup (strL (missF cs ps d))) L := by simp [S_miss, obN]
theorem ite_tail (x : String) (b : Bool) : ∀ ms : List String, (if b then ms ++ [x] else ms) = ms ++ (if b then [x] else []) := by intro ms; cases b <;> simp
theorem m_miss {T C} (h1 : C "has_one" = S_has_one) (h2 : C "defers_values" = S_ask defF) (h3 : C "buffers_stores" = S_ask bufF) (h4 : C "state_rules" = S_state) (h5 : C "Carry.has" = S_has)
    (hv : T.glob "VALUE_WAYS" = some (.tup (strL ["flush_values", "tell_values"]))) (hw : T.glob "STORE_WAYS" = some (.tup (strL ["drain_stores", "tell_stores"]))) : Meets (evF T C F_missing) S_miss := by
  intro args L r2 L2 hL ha h
  unfold S_miss at h
  split at h
  · rename_i cs ps d
    split at h
    · rename_i cs ps e1 e2
      cases h
      have e1 := of_unS e1
      have e2 := of_unS e2
      subst e1 e2
      have hl := stateF_len d
      have ec := cpr_strs (T := T) (C := C) (L := L) (elt := .var 4) (tg := .nm 4) (src := .of (.call "state_rules" [.var 2] [])) (cond := some (.not (.mth (.var 0) "has" [.var 4] []))) (own := [4]) (s := [some (obN "Carry" cs), some (obN "Policy" ps), some (.bl d), none, none]) (ns := stateF d)
        (fun z => !cs.contains z) (by simp [sget, h4, S_state, itV]) (fun z hz L' => by
          have hs := S_has_eq (L := L') (K := "Carry") (ns := cs) (x := z)
          simp only [obN] at hs
          simp only [cprB, wipeL, evG_nm, List.length_cons, List.length_nil, List.set_cons_succ, List.set_cons_zero, Nat.reduceAdd, Nat.reduceLT, if_true, R.bind_ok, evC_some, evE_not, evE_mth, evE_var, sget, List.getElem?_cons_succ, List.getElem?_cons_zero, R.of_some, obN, mthV_ob, getO, evEs_cons, evEs_nil, List.append_nil]
          simp only [show ("Carry" ++ "." ++ "has" : String) = "Carry.has" from rfl, h5, hs]
          cases cs.contains z <;> simp) (by have := List.length_filter_le (fun z => d || !(z == "written")) srules; simp; omega)
      have hb : ((stateF d).filter fun z => !cs.contains z).length ≤ 13 := Nat.le_trans (List.length_filter_le _ _) hl
      have s1 := S_has_one_c (ns := cs) (zs := ["flush_values", "tell_values"]) (L := L ++ [.lst (strL ((stateF d).filter fun z => !cs.contains z))]) (by decide)
      have go : SWp (evSs T C F_missing.body [some (obN "Carry" cs), some (obN "Policy" ps), some (.bl d), none, none] L) No No No fun v L' => v = .tup (strL (missF cs ps d)) ∧ ∃ Gb : LH, L' = L ++ Gb := by
        have fin : ∀ ms : List String, SWp (evSs T C [.ret (.blt "tuple" [.var 3])] [some (obN "Carry" cs), some (obN "Policy" ps), some (.bl d), some (.ref L.length), none] (L ++ [.lst (strL ms)])) No No No fun v L' => v = .tup (strL ms) ∧ ∃ Gb : LH, L' = L ++ Gb := by
          intro ms
          refine SWp_cons ?_
          simp [sget, bltV, tupV, seqAt]
        have second : ∀ ms : List String, ms.length < 1000 → SWp (evSs T C [.ite (.and (.call "buffers_stores" [.var 1] []) (.not (.call "has_one" [.var 0, .glo "STORE_WAYS"] []))) [.exp (.mth (.var 3) "append" [.con (.str "stores")] [])] [], .ret (.blt "tuple" [.var 3])] [some (obN "Carry" cs), some (obN "Policy" ps), some (.bl d), some (.ref L.length), none] (L ++ [.lst (strL ms)])) No No No
            fun v L' => v = .tup (strL (ms ++ (if bufF ps && !(["drain_stores", "tell_stores"].any fun z => cs.contains z) then ["stores"] else []))) ∧ ∃ Gb : LH, L' = L ++ Gb := by
          intro ms hm
          have s2 := S_has_one_c (ns := cs) (zs := ["drain_stores", "tell_stores"]) (L := L ++ [.lst (strL ms)]) (by decide)
          refine SWp_cons ?_
          simp only [evS_ite', evE_and, evE_not, evE_call, evEs_cons, evEs_nil, evE_var, evE_glo, hw, sget, List.getElem?_cons_succ, List.getElem?_cons_zero, R.of_some, R.bind_ok, List.append_nil, h1, h3, S_ask_eq, s2, asB_bl]
          generalize (["drain_stores", "tell_stores"].any fun z => cs.contains z) = w
          cases bufF ps <;> cases w <;> simp only [Bool.not_true, Bool.not_false, Bool.and_true, Bool.and_false, Bool.true_and, Bool.false_and, Bool.false_eq_true, if_true, if_false, R.bind_ok, asB_bl, R.toS_ok, SWp_toS, RWp_ok, evSs_nil, SWp_nx, List.append_nil] <;> first | exact fin _ | skip
          refine SWp_cons ?_
          simp only [evS_exp, evE_mth, evE_var, evEs_cons, evEs_nil, evE_con, sget, List.getElem?_cons_succ, List.getElem?_cons_zero, R.of_some, R.bind_ok, mthV_last, app_last hm, R.toS_ok, SWp_nx, evSs_nil]
          exact fin _
        simp only [F_missing]
        refine SWp_cons ?_
        rw [evS_asg, SWp_toS, RWp_bind, ec, RWp_ok]
        simp only [evG_nm, List.length_cons, List.length_nil, List.set_cons_succ, List.set_cons_zero, Nat.reduceAdd, Nat.reduceLT, if_true, RWp_ok, SWp_nx]
        unfold missF
        generalize ((stateF d).filter fun z => !cs.contains z) = ms at hb s1
        refine SWp_cons ?_
        simp only [evS_ite', evE_and, evE_not, evE_call, evEs_cons, evEs_nil, evE_var, evE_glo, hv, sget, List.getElem?_cons_succ, List.getElem?_cons_zero, R.of_some, R.bind_ok, List.append_nil, h1, h2, S_ask_eq, s1, asB_bl]
        generalize (["flush_values", "tell_values"].any fun z => cs.contains z) = w
        cases defF ps <;> cases w <;> simp only [Bool.not_true, Bool.not_false, Bool.and_true, Bool.and_false, Bool.true_and, Bool.false_and, Bool.false_eq_true, if_true, if_false, R.bind_ok, asB_bl, R.toS_ok, SWp_toS, RWp_ok, evSs_nil, SWp_nx, List.append_nil] <;> first | exact second _ (by omega) | skip
        refine SWp_cons ?_
        simp only [evS_exp, evE_mth, evE_var, evEs_cons, evEs_nil, evE_con, sget, List.getElem?_cons_succ, List.getElem?_cons_zero, R.of_some, R.bind_ok, mthV_last, app_last (show ms.length < 1000 by omega), R.toS_ok, SWp_nx, evSs_nil]
        exact second _ (by simp; omega)
      obtain ⟨v, L', e1, rfl, Gb, rfl⟩ := evF_go (f := F_missing) (vs := [obN "Carry" cs, obN "Policy" ps, .bl d]) rfl go
      exact ⟨_, _, e1, Sim.drop hL (by simp [clV])⟩
    · cases h
  · cases h
def S_isw (args : List LV) (L : LH) : R LV := match args with
  | [.ob "Carry" ["names"] [.tup cs], .ob "Policy" ["names"] [.tup ps], .bl d] => match unS cs, unS ps with
    | some cs, some ps => .ok (.bl (((missF cs ps d).length : Int) == 0)) L
    | _, _ => .stuck
  | _ => .stuck
@[simp] theorem S_isw_eq {cs ps : List String} {d : Bool} {L : LH} : S_isw [obN "Carry" cs, obN "Policy" ps, .bl d] L = .ok (.bl (((missF cs ps d).length : Int) == 0)) L := by simp [S_isw, obN]
theorem m_isw {T C} (h : C "missing_parts" = S_miss) : Meets (evF T C F_iswhole) S_isw := by
  intro args L r2 L2 hL ha h'
  unfold S_isw at h'
  split at h'
  · rename_i cs ps d
    split at h'
    · rename_i cs ps e1 e2
      cases h'
      have e1 := of_unS e1
      have e2 := of_unS e2
      subst e1 e2
      have e : evSs T C F_iswhole.body [some (obN "Carry" cs), some (obN "Policy" ps), some (.bl d)] L = .rt (.bl (((missF cs ps d).length : Int) == 0)) L := by
        simp [F_iswhole, evSs_cons, sget, h, bltV, lenV, seqAt]
      exact ⟨_, _, evF_rt rfl e, Sim.refl hL rfl (Nat.le_refl _)⟩
    · cases h'
  · cases h'
/-! ### the law's own -/
def S_list (ns : List String) (args : List LV) (L : LH) : R LV := match args with
  | [] => .ok (.fl (strL ns)) L
  | _ => .stuck
@[simp] theorem S_list_eq {ns : List String} {L : LH} : S_list ns [] L = .ok (.fl (strL ns)) L := rfl
theorem run_txt2 {T : Tbl} {C : Orc} {a b z : String} {ns : List String} (hz : a ++ b = z) (h1 : a.length + b.length ≤ big) (hs : ∀ L, splitV z [.str " "] L = .ok (.ref L.length) (L ++ [.lst (strL ns)])) (L : LH) :
    evSs T C [.asg (.nm 0) (.con (.str a)), .asg (.nm 0) (.bin .add (.var 0) (.con (.str b))), .ret (.frz (.mth (.var 0) "split" [.con (.str " ")] []))] [none] L = .rt (.fl (strL ns)) L := by
  have f := fzV_lst (L := L) (xs := strL ns) (strL_cl _ _)
  simp only [evSs_cons, evSs_nil, evS_asg, evE_con, evE_bin, evE_var, evS_ret, evE_mth, evE_frz, evEs_cons, evEs_nil, R.bind_ok, evG_nm, R.toS_ok, SR.bind_nx, sget, R.of_some, List.length_cons, List.length_nil, List.set_cons_zero, List.getElem?_cons_zero, Nat.reduceAdd, Nat.lt_one_iff, if_true, Nat.zero_lt_one, binO_str, binV, addV, h1, mthV_str, smV, hz, hs, f, SR.bind_rt]
theorem run_txt4 {T : Tbl} {C : Orc} {a b c d z : String} {ns : List String} (hz : a ++ b ++ c ++ d = z) (h1 : a.length + b.length ≤ big) (h2 : (a ++ b).length + c.length ≤ big) (h3 : (a ++ b ++ c).length + d.length ≤ big) (hs : ∀ L, splitV z [.str " "] L = .ok (.ref L.length) (L ++ [.lst (strL ns)])) (L : LH) :
    evSs T C [.asg (.nm 0) (.con (.str a)), .asg (.nm 0) (.bin .add (.var 0) (.con (.str b))), .asg (.nm 0) (.bin .add (.var 0) (.con (.str c))), .asg (.nm 0) (.bin .add (.var 0) (.con (.str d))), .ret (.frz (.mth (.var 0) "split" [.con (.str " ")] []))] [none] L = .rt (.fl (strL ns)) L := by
  have f := fzV_lst (L := L) (xs := strL ns) (strL_cl _ _)
  simp only [evSs_cons, evSs_nil, evS_asg, evE_con, evE_bin, evE_var, evS_ret, evE_mth, evE_frz, evEs_cons, evEs_nil, R.bind_ok, evG_nm, R.toS_ok, SR.bind_nx, sget, R.of_some, List.length_cons, List.length_nil, List.set_cons_zero, List.getElem?_cons_zero, Nat.reduceAdd, Nat.lt_one_iff, if_true, Nat.zero_lt_one, binO_str, binV, addV, h1, h2, h3, mthV_str, smV, hz, hs, f, SR.bind_rt]
def ctext : String := "cells pages rights written counter registers flags level enabled pending saved halted second flush_values tell_values drain_stores tell_stores entries"
def ptext : String := "invalidate_store invalidate_device track_frames track_prepared track_second invalidate_map invalidate_rights key_level leave_self leave_other cut_links clear_links hold_slot check_entry stop_page stop_store no_links single eager flush_exit flush_source keep_dropped map_inspect map_fault flush_fault map_leave prompt_store poll_entry poll_backward"
theorem spl_of {z : String} {ns : List String} (h1 : splL z " " = ns) (h2 : ns.map Str.ofString = Txt.split (Str.ofString z) (Str.ofString " ")) (h3 : ((Str.ofString " ").length == 0) = false ∧ (Str.ofString z).length + 2 ≤ 1000) (L : LH) : splitV z [.str " "] L = .ok (.ref L.length) (L ++ [.lst (strL ns)]) := by
  simp only [splitV]
  rw [h1, if_pos ⟨h3.1, h3.2, h2⟩]
  rfl
theorem spl_c (L : LH) : splitV ctext [.str " "] L = .ok (.ref L.length) (L ++ [.lst (strL crules)]) := spl_of (by kernel_rfl) (by kernel_rfl) ⟨by decide +kernel, by decide +kernel⟩ L
theorem spl_p (L : LH) : splitV ptext [.str " "] L = .ok (.ref L.length) (L ++ [.lst (strL prules)]) := spl_of (by kernel_rfl) (by kernel_rfl) ⟨by decide +kernel, by decide +kernel⟩ L
theorem m_list {T C} {f : Fn} {ns : List String} (h0 : f.arity = 0) (h1 : f.slots = 1) (h : ∀ L, evSs T C f.body [none] L = .rt (.fl (strL ns)) L) : Meets (evF T C f) (S_list ns) := by
  intro args L r2 L2 hL ha h'
  unfold S_list at h'
  split at h'
  · cases h'
    exact ⟨_, _, evF_rt (by rw [h0]; rfl) (by rw [h1]; exact h L), Sim.refl hL (by simp [clV]) (Nat.le_refl _)⟩
  · cases h'
theorem m_lcrules {T C} : Meets (evF T C F_lcrules) (S_list crules) := m_list rfl rfl fun L => run_txt2 (z := ctext) (by kernel_rfl) (by decide +kernel) spl_c L
theorem m_lrules {T C} : Meets (evF T C F_lrules) (S_list prules) := m_list rfl rfl fun L => run_txt4 (z := ptext) (by kernel_rfl) (by decide +kernel) (by decide +kernel) (by decide +kernel) spl_p L
end G
set_option Elab.async false
set_option linter.all false
set_option maxRecDepth 100000
set_option maxHeartbeats 4000000
/-! G19: the laws' own digits, choices, and what they say is missing. -/
namespace G
open PySem
/-! ### digits -/
def dg (ds : List Int) (i : Nat) : Int := ds.getD i 0
def iL (ds : List Int) : List LV := ds.map .int
@[simp] theorem iL_len (ds : List Int) : (iL ds).length = ds.length := List.length_map _
@[simp] theorem iL_cl (n : Nat) (ds : List Int) : clVs n (iL ds) = true := ints_cl n ds
theorem iL_get (ds : List Int) (i : Nat) : (iL ds).getD i (.int 0) = .int (dg ds i) := by
  unfold iL dg
  rw [List.getD_eq_getElem?_getD, List.getD_eq_getElem?_getD, List.getElem?_map]
  cases ds[i]? <;> rfl
@[simp] theorem intsL_iL : ∀ ns : List Int, intsL (iL ns) = some ns
  | [] => rfl
  | a :: r => by
    have := intsL_iL r
    simp only [iL] at this
    simp [iL, intsL, this]
theorem fmap_congr {α β : Type} {f g : α → Option β} : ∀ {l : List α}, (∀ x ∈ l, f x = g x) → l.filterMap f = l.filterMap g
  | [], _ => rfl
  | a :: r, h => by rw [List.filterMap_cons, List.filterMap_cons, h a List.mem_cons_self, fmap_congr fun x hx => h x (List.mem_cons_of_mem _ hx)]
/-- the digits of a row -/
def Row (ds : List Int) : Prop := (∀ x ∈ ds, 0 ≤ x ∧ x < 16) ∧ ds.length ≤ 1000
theorem Row.dg {ds : List Int} (h : Row ds) (i : Nat) : 0 ≤ dg ds i ∧ dg ds i < 16 := by
  unfold G.dg
  rw [List.getD_eq_getElem?_getD]
  cases e : ds[i]? with
  | none => simp
  | some x => simpa using h.1 x (List.mem_of_getElem? e)
theorem row_Row {m : Int} (ns : List Int) (h : 0 ≤ m ∧ m ≤ 1000) : Row (rowF m ns) := by
  obtain ⟨h1, h2⟩ := rowF_dig (most := m) ns
  exact ⟨h1, by have := h2 h.1; omega⟩
@[simp] theorem S_row_eq {L : LH} {ns : List Int} {m : Int} (h : 0 ≤ m ∧ m ≤ 1000) : S_row [.fl (ns.map .int), .int m] L = .ok (.fl (iL (rowF m ns))) L := by
  have e : intsL (ns.map .int) = some ns := intsL_iL ns
  unfold S_row
  simp only [e]
  rw [if_pos h]; rfl
theorem S_digit_eq {L : LH} {ds : List Int} {a : Int} (h : Row ds) (ha : 0 ≤ a) : S_digit [.fl (iL ds), .int a] L = .ok (.int (dg ds a.toNat)) L := by
  unfold S_digit
  simp only [iL_len, big_val]
  rw [if_pos ⟨ha, by have := h.2; omega⟩, iL_get]
def pickF (ds : List Int) (a m : Int) : Int := (dg ds a.toNat + 16 * dg ds (a + 1).toNat) % m
instance (ds : List Int) : Decidable (Row ds) := by unfold Row; infer_instance
def S_pick (args : List LV) (L : LH) : R LV := match args with
  | [.fl xs, .int a, .int m] => match intsL xs with
    | some ds => if Row ds ∧ 0 ≤ a ∧ 0 < m then .ok (.int (pickF ds a m)) L else .stuck
    | none => .stuck
  | _ => .stuck
theorem S_pick_eq {L : LH} {ds : List Int} {a m : Int} (h : Row ds) (ha : 0 ≤ a) (hm : 0 < m) : S_pick [.fl (iL ds), .int a, .int m] L = .ok (.int (pickF ds a m)) L := by
  simp [S_pick, h, ha, hm]
theorem dg_out {ds : List Int} {i : Nat} (h : ds.length ≤ i) : dg ds i = 0 := by
  unfold dg
  simp [List.getD, List.getElem?_eq_none h]
theorem idx_in {ds : List Int} {L : LH} {a : Int} (h0 : 0 ≤ a) (h1 : a < ds.length) : idxV (.fl (iL ds)) (.int a) L = some (.int (dg ds a.toNat)) := by
  have hl : a.toNat < ds.length := by omega
  simp only [idxV, seqAt, Option.bind_some, ixL, iL_len]
  rw [if_pos h0, if_pos h1]
  simp only [Option.bind_some, iL, List.getElem?_map, dg]
  rw [List.getD_eq_getElem?_getD, List.getElem?_eq_getElem hl]
  rfl
theorem m_pick {T C} : Meets (evF T C F_pick) S_pick := by
  intro args L r2 L2 hL ha h
  unfold S_pick at h
  split at h
  · rename_i xs a m
    split at h
    · rename_i ds e1
      split at h
      · rename_i hh
        obtain ⟨hd, h0, hm⟩ := hh
        cases h
        have e1 := of_intsL e1
        subst e1
        have e : evSs T C F_pick.body [some (.fl (iL ds)), some (.int a), some (.int m), none] L = .rt (.int (pickF ds a m)) L := by
          by_cases c1 : a < (ds.length : Int)
          · have i1 := idx_in (L := L) h0 c1
            by_cases c2 : a + 1 < (ds.length : Int)
            · have i2 := idx_in (L := L) (a := a + 1) (by omega) c2
              simp [F_pick, evSs_cons, sget, bltV, lenV, seqAt, cmpV, c1, c2, i1, i2, binV, addV, mulV, intV, hm, pickF]
            · have z2 : dg ds (a + 1).toNat = 0 := dg_out (by omega)
              simp [F_pick, evSs_cons, sget, bltV, lenV, seqAt, cmpV, c1, c2, i1, binV, addV, mulV, intV, hm, pickF, z2]
          · have z1 : dg ds a.toNat = 0 := dg_out (by omega)
            have z2 : dg ds (a + 1).toNat = 0 := dg_out (by omega)
            have c2 : ¬ a + 1 < (ds.length : Int) := by omega
            simp [F_pick, evSs_cons, sget, bltV, lenV, seqAt, cmpV, c1, c2, binV, addV, mulV, intV, hm, pickF, z1, z2]
        exact ⟨_, _, evF_rt rfl e, Sim.refl hL rfl (Nat.le_refl _)⟩
      · cases h
    · cases h
  · cases h
/-! ### rules chosen by digits -/
theorem idxOf_get {l : List String} (h : l.Nodup) {i : Nat} (hi : i < l.length) : l.idxOf l[i] = i := by
  have h1 : l.idxOf l[i] < l.length := List.idxOf_lt_length_of_mem (List.getElem_mem hi)
  exact (List.getElem_inj h).mp (List.getElem_idxOf h1)
theorem range_pick {known : List String} (nd : known.Nodup) (c : Nat → Bool) : (List.range known.length).filterMap (fun k => if c k = true then known[k]? else none) = known.filter fun z => c (known.idxOf z) := by
  have e : known = (List.range known.length).filterMap fun k => known[k]? := by
    apply List.ext_getElem?
    intro i
    have : (List.range known.length).filterMap (fun k => known[k]?) = (List.range known.length).map fun k => known.getD k "" := by
      rw [← List.filterMap_eq_map]
      apply fmap_congr
      intro k hk
      have : k < known.length := List.mem_range.mp hk
      simp [List.getD, this]
    rw [this, List.getElem?_map]
    by_cases hi : i < known.length
    · simp [hi, List.getD]
    · simp [hi]
  conv => rhs; rw [e]
  rw [List.filter_filterMap]
  apply fmap_congr
  intro k hk
  have hk : k < known.length := List.mem_range.mp hk
  rw [← e, List.getElem?_eq_getElem hk]
  simp [idxOf_get nd hk, Option.guard, Option.filter]
/-- [rules[k] for k in range(n) if ..] -/
theorem frz_rules {T : Tbl} {C : Orc} {s : Sl} {L : LH} {elt : Ex} {tg : Tg} {src : It} {cond : Option Ex} {own : List Nat} {known : List String} (nd : known.Nodup) (hl : known.length < 1000) (c : Nat → Bool) (h1 : evI T C src s L = .ok ((List.range known.length).map fun (k : Nat) => .int (0 + k), none) L)
    (h2 : ∀ k, k < known.length → ∀ L', cprB T C elt tg cond own s (.int k) L' = .ok (if c k = true then (known[k]?).map .str else none) L') :
    evE T C (.frz (.cpr elt tg src cond own)) s L = .ok (.fl (strL (known.filter fun z => c (known.idxOf z)))) L := by
  have e : ((List.range known.length).map fun (k : Nat) => LV.int (0 + k)).filterMap (fun x => match x with | .int i => if c i.toNat = true then (known[i.toNat]?).map .str else none | _ => none) = strL (known.filter fun z => c (known.idxOf z)) := by
    rw [← range_pick nd c, strL, List.map_filterMap, List.filterMap_map]
    apply fmap_congr
    intro k hk
    simp only [Function.comp, Int.zero_add, Int.toNat_natCast]
    cases c k <;> simp
  have := frz_cpr (T := T) (C := C) (s := s) (L := L) (elt := elt) (tg := tg) (src := src) (cond := cond) (own := own) (xs := (List.range known.length).map fun (k : Nat) => LV.int (0 + k)) (fun x => match x with | .int i => if c i.toNat = true then (known[i.toNat]?).map .str else none | _ => none) h1 (fun x hx L' => by
    obtain ⟨k, hk, rfl⟩ := List.mem_map.mp hx
    have hk : k < known.length := List.mem_range.mp hk
    have := h2 k hk L'
    simpa using this) (by simp; omega) (by rw [e]; exact strL_cl _ _)
  rw [e] at this
  exact this
theorem idx_strL {ns : List String} {k : Nat} {L : LH} (h : k < ns.length) : idxV (.fl (strL ns)) (.int k) L = (ns[k]?).map .str := by
  simp [idxV, seqAt, ixL, h, strL]
def anyC (ds : List Int) (a : Int) (k : Nat) : Bool := decide ([7, 3, 11, 7].getD ((dg ds a.toNat) % 4).toNat 0 < (dg ds (a + 1 + k).toNat + 5 * k + 4) % 16)
def anyF (ds : List Int) (a : Int) : List String := prules.filter fun z => anyC ds a (prules.idxOf z)
def someC (ds : List Int) (a : Int) (k : Nat) : Bool := decide ((dg ds (a + 1 + k).toNat + 3 * k) % 16 < [12, 15, 7, 14].getD ((dg ds a.toNat) % 4).toNat 0)
def someF (ds : List Int) (a : Int) : List String := crules.filter fun z => someC ds a (crules.idxOf z)
def S_rules (f : List Int → Int → List String) (args : List LV) (L : LH) : R LV := match args with
  | [.fl xs, .int a] => match intsL xs with
    | some ds => if Row ds ∧ 0 ≤ a ∧ a < 100000 then .ok (.fl (strL (f ds a))) L else .stuck
    | none => .stuck
  | _ => .stuck
theorem S_rules_eq {f : List Int → Int → List String} {L : LH} {ds : List Int} {a : Int} (h : Row ds) (ha : 0 ≤ a ∧ a < 100000) : S_rules f [.fl (iL ds), .int a] L = .ok (.fl (strL (f ds a))) L := by
  simp [S_rules, h, ha]
theorem quad (a b c d r : Int) (h : 0 ≤ r ∧ r < 16) (L : LH) : idxV (.fl [.int a, .int b, .int c, .int d]) (.int (r % 4)) L = some (.int ([a, b, c, d].getD (r % 4).toNat 0)) := by
  have : r % 4 = 0 ∨ r % 4 = 1 ∨ r % 4 = 2 ∨ r % 4 = 3 := by omega
  rcases this with e | e | e | e <;> rw [e] <;> rfl
theorem nd_p : prules.Nodup := by decide +kernel
theorem nd_c : crules.Nodup := by decide +kernel
theorem m_lany {T C} (h1 : C "_law_rules" = S_list prules) (h2 : C "_law_digit" = S_digit) : Meets (evF T C F_lany) (S_rules anyF) := by
  intro args L r2 L2 hL ha h
  unfold S_rules at h
  split at h
  · rename_i xs a
    split at h
    · rename_i ds e1
      split at h
      · rename_i hh
        obtain ⟨hd, h0, hm⟩ := hh
        cases h
        have e1 := of_intsL e1
        subst e1
        have d1 := fun L => S_digit_eq (L := L) hd h0
        have hq := quad 7 3 11 7 (dg ds a.toNat) (hd.dg _) L
        have hf : ∀ L : LH, fzV L (.ref L.length) (L ++ [.lst [.int 7, .int 3, .int 11, .int 7]]) = .ok (.fl [.int 7, .int 3, .int 11, .int 7]) L := fun L => fzV_lst (by simp [clVs, clV])
        have ec := frz_rules (T := T) (C := C) (L := L) (elt := .idx (.var 2) (.var 4)) (tg := .nm 4) (src := .rng [.con (.int 29)]) (cond := some (.cmp .gt (.bin .mod (.blt "int" [.bin .add (.bin .add (.call "_law_digit" [.var 0, .bin .add (.bin .add (.var 1) (.con (.int 1))) (.var 4)] []) (.bin .mul (.con (.int 5)) (.var 4))) (.con (.int 4))]) (.con (.int 16))) (.var 3))) (own := [4])
          (s := [some (.fl (iL ds)), some (.int a), some (.fl (strL prules)), some (.int ([7, 3, 11, 7].getD (dg ds a.toNat % 4).toNat 0)), none]) (known := prules) nd_p (by decide) (anyC ds a) (by simp [rngV]; rfl) (fun k hk L' => by
            have d2 := S_digit_eq (L := L') (a := a + 1 + k) hd (by omega)
            have hk2 := idx_strL (L := L') hk
            simp only [cprB, wipeL, evG_nm, List.length_cons, List.length_nil, List.set_cons_succ, List.set_cons_zero, Nat.reduceAdd, Nat.reduceLT, if_true, R.bind_ok, evC_some, evE_cmp, evE_bin, evE_blt, evE_call, evEs_cons, evEs_nil, evE_var, evE_con, sget, List.getElem?_cons_succ, List.getElem?_cons_zero, R.of_some, binO_int, binV, addV, mulV, h2, d2, List.append_nil, bltV, intV, cmpO_int, cmpV, Option.map_some, asB_bl]
            have hk3 : k < 29 := hk
            have m1 : (-(2 ^ 64) < (5 : Int) ∧ (5 : Int) < 2 ^ 64) ∨ (-(2 ^ 64) < (k : Int) ∧ (k : Int) < 2 ^ 64) := by omega
            simp only [m1, if_true, R.bind_ok, binO_int, addV, intV, R.of_some, Option.map_some, asB_bl, cmpO_int, cmpV, ord_gt_int, ord_lt_int, evE_idx, evE_var, sget, List.getElem?_cons_succ, List.getElem?_cons_zero, hk2, binV, Int.reduceLT]
            unfold anyC
            rw [List.getElem?_eq_getElem hk]
            cases hdc : decide ([7, 3, 11, 7].getD ((dg ds a.toNat) % 4).toNat 0 < (dg ds (a + 1 + k).toNat + 5 * k + 4) % 16) <;> simp [ordV, hdc])
        have e : evSs T C F_lany.body [some (.fl (iL ds)), some (.int a), none, none, none] L = .rt (.fl (strL (anyF ds a))) L := by
          simp only [F_lany]
          rw [evSs_cons]
          simp only [evS_asg, evE_call, evEs_nil, R.bind_ok, h1, S_list_eq, List.append_nil, evG_nm, List.length_cons, List.length_nil, List.set_cons_succ, List.set_cons_zero, Nat.reduceAdd, Nat.reduceLT, if_true, R.toS_ok, SR.bind_nx]
          rw [evSs_cons]
          simp only [evS_asg, evE_idx, evE_frz, evE_lst, evEs_cons, evEs_nil, evE_con, R.bind_ok, List.length_cons, List.length_nil, big_val, Nat.reduceAdd, Nat.reduceLeDiff, if_true, hf, evE_bin, evE_blt, evE_call, evE_var, sget, List.getElem?_cons_succ, List.getElem?_cons_zero, R.of_some, h2, d1, List.append_nil, bltV, intV, binO_int, binV, hq, evG_nm, List.set_cons_succ, List.set_cons_zero, Nat.reduceLT, R.toS_ok, SR.bind_nx, Int.reduceLT]
          rw [evSs_cons, evS_ret, ec]
          rfl
        exact ⟨_, _, evF_rt rfl e, Sim.refl hL (by simp [clV]) (Nat.le_refl _)⟩
      · cases h
    · cases h
  · cases h
theorem m_lsome {T C} (h1 : C "_law_carry_rules" = S_list crules) (h2 : C "_law_digit" = S_digit) : Meets (evF T C F_lsome) (S_rules someF) := by
  intro args L r2 L2 hL ha h
  unfold S_rules at h
  split at h
  · rename_i xs a
    split at h
    · rename_i ds e1
      split at h
      · rename_i hh
        obtain ⟨hd, h0, hm⟩ := hh
        cases h
        have e1 := of_intsL e1
        subst e1
        have d1 := fun L => S_digit_eq (L := L) hd h0
        have hq := quad 12 15 7 14 (dg ds a.toNat) (hd.dg _) L
        have hf : ∀ L : LH, fzV L (.ref L.length) (L ++ [.lst [.int 12, .int 15, .int 7, .int 14]]) = .ok (.fl [.int 12, .int 15, .int 7, .int 14]) L := fun L => fzV_lst (by simp [clVs, clV])
        have ec := frz_rules (T := T) (C := C) (L := L) (elt := .idx (.var 2) (.var 4)) (tg := .nm 4) (src := .rng [.con (.int 18)]) (cond := some (.cmp .lt (.bin .mod (.blt "int" [.bin .add (.call "_law_digit" [.var 0, .bin .add (.bin .add (.var 1) (.con (.int 1))) (.var 4)] []) (.bin .mul (.con (.int 3)) (.var 4))]) (.con (.int 16))) (.var 3))) (own := [4])
          (s := [some (.fl (iL ds)), some (.int a), some (.fl (strL crules)), some (.int ([12, 15, 7, 14].getD (dg ds a.toNat % 4).toNat 0)), none]) (known := crules) nd_c (by decide) (someC ds a) (by simp [rngV]; rfl) (fun k hk L' => by
            have d2 := S_digit_eq (L := L') (a := a + 1 + k) hd (by omega)
            have hk2 := idx_strL (L := L') hk
            simp only [cprB, wipeL, evG_nm, List.length_cons, List.length_nil, List.set_cons_succ, List.set_cons_zero, Nat.reduceAdd, Nat.reduceLT, if_true, R.bind_ok, evC_some, evE_cmp, evE_bin, evE_blt, evE_call, evEs_cons, evEs_nil, evE_var, evE_con, sget, List.getElem?_cons_succ, List.getElem?_cons_zero, R.of_some, binO_int, binV, addV, mulV, h2, d2, List.append_nil, bltV, intV, cmpO_int, cmpV, Option.map_some, asB_bl]
            have hk3 : k < 18 := hk
            have m1 : (-(2 ^ 64) < (3 : Int) ∧ (3 : Int) < 2 ^ 64) ∨ (-(2 ^ 64) < (k : Int) ∧ (k : Int) < 2 ^ 64) := by omega
            simp only [m1, if_true, R.bind_ok, binO_int, addV, intV, R.of_some, Option.map_some, asB_bl, cmpO_int, cmpV, ord_gt_int, ord_lt_int, evE_idx, evE_var, sget, List.getElem?_cons_succ, List.getElem?_cons_zero, hk2, binV, Int.reduceLT]
            unfold someC
            rw [List.getElem?_eq_getElem hk]
            cases hdc : decide ((dg ds (a + 1 + k).toNat + 3 * k) % 16 < [12, 15, 7, 14].getD ((dg ds a.toNat) % 4).toNat 0) <;> simp [ordV, hdc])
        have e : evSs T C F_lsome.body [some (.fl (iL ds)), some (.int a), none, none, none] L = .rt (.fl (strL (someF ds a))) L := by
          simp only [F_lsome]
          rw [evSs_cons]
          simp only [evS_asg, evE_call, evEs_nil, R.bind_ok, h1, S_list_eq, List.append_nil, evG_nm, List.length_cons, List.length_nil, List.set_cons_succ, List.set_cons_zero, Nat.reduceAdd, Nat.reduceLT, if_true, R.toS_ok, SR.bind_nx]
          rw [evSs_cons]
          simp only [evS_asg, evE_idx, evE_frz, evE_lst, evEs_cons, evEs_nil, evE_con, R.bind_ok, List.length_cons, List.length_nil, big_val, Nat.reduceAdd, Nat.reduceLeDiff, if_true, hf, evE_bin, evE_blt, evE_call, evE_var, sget, List.getElem?_cons_succ, List.getElem?_cons_zero, R.of_some, h2, d1, List.append_nil, bltV, intV, binO_int, binV, hq, evG_nm, List.set_cons_succ, List.set_cons_zero, Nat.reduceLT, R.toS_ok, SR.bind_nx, Int.reduceLT]
          rw [evSs_cons, evS_ret, ec]
          rfl
        exact ⟨_, _, evF_rt rfl e, Sim.refl hL (by simp [clV]) (Nat.le_refl _)⟩
      · cases h
    · cases h
  · cases h
end G
set_option Elab.async false
set_option linter.all false
set_option maxRecDepth 100000
set_option maxHeartbeats 4000000
/-! G20: the law's account of what is missing; slices; comparisons of equal values. -/
namespace G
open PySem
section
variable {T : Tbl} {C : Orc} {s : Sl} {L : LH}
theorem evO_none : evO T C none s L = .ok none L := by simp only [evO]
theorem evO_some (e : Ex) : evO T C (some e) s L = (evE T C e s L).bind fun v L1 => match v with | .int i => .ok (some i) L1 | _ => .stuck := by simp only [evO] <;> rfl
/-- a slice -/
def slcV (x : LV) (l h : Option Int) (L3 : LH) : R LV := match x with
    | .tup xs => .ok (.tup (cutL xs l h)) L3
    | x => match lstAt L3 x with
      | some xs => .ok (.ref L3.length) (L3 ++ [.lst (cutL xs l h)])
      | none => .stuck
theorem evE_slc (a : Ex) (lo hi : Option Ex) : evE T C (.slc a lo hi) s L = (evE T C a s L).bind fun x L1 => (evO T C lo s L1).bind fun l L2 => (evO T C hi s L2).bind fun h L3 => slcV x l h L3 := by simp only [evE] <;> rfl
@[simp] theorem slcV_fl {xs : List LV} {l h : Option Int} : slcV (.fl xs) l h L = .ok (.ref L.length) (L ++ [.lst (cutL xs l h)]) := rfl
end
theorem cut_strL (ns : List String) (l h : Option Int) : cutL (strL ns) l h = strL (cutL ns l h) := by
  simp [cutL, strL, List.map_take, List.map_drop]
theorem val_eq (cs ps : List String) : (defF ps && !(["flush_values", "tell_values"].any fun z => cs.contains z)) = ((!ps.contains "eager" && !ps.contains "single") && (!cs.contains "flush_values" && !cs.contains "tell_values")) := by
  simp [defF]
theorem sto_eq (cs ps : List String) : (bufF ps && !(["drain_stores", "tell_stores"].any fun z => cs.contains z)) = ((!ps.contains "prompt_store" && (!ps.contains "single" && !ps.contains "stop_store")) && (!cs.contains "drain_stores" && !cs.contains "tell_stores")) := by
  simp [bufF]
def S_lmiss (args : List LV) (L : LH) : R LV := match args with
  | [.fl cs, .fl ps, .bl d] => match unS cs, unS ps with
    | some cs, some ps => .ok (.fl (strL (missF cs ps d))) L
    | _, _ => .stuck
  | _ => .stuck
@[simp] theorem S_lmiss_eq {cs ps : List String} {d : Bool} {L : LH} : S_lmiss [.fl (strL cs), .fl (strL ps), .bl d] L = .ok (.fl (strL (missF cs ps d))) L := by simp [S_lmiss]
theorem m_lmissing {T C} (h1 : C "_law_carry_rules" = S_list crules) : Meets (evF T C F_lmissing) S_lmiss := by
  intro args L r2 L2 hL ha h
  unfold S_lmiss at h
  split at h
  · rename_i cs ps d
    split at h
    · rename_i cs ps e1 e2
      cases h
      have e1 := of_unS e1
      have e2 := of_unS e2
      subst e1 e2
      have hl := stateF_len d
      have hf : ∀ L : LH, fzV L (.ref L.length) (L ++ [.lst (strL srules)]) = .ok (.fl (strL srules)) L := fun L => fzV_lst (by simp)
      have h13 : cutL crules none (some 13) = srules := by decide +kernel
      have ec := cpr_strs (T := T) (C := C) (L := L) (elt := .var 4) (tg := .nm 4) (src := .of (.frz (.slc (.call "_law_carry_rules" [] []) none (some (.con (.int 13)))))) (cond := some (.and (.cmp .nin (.var 4) (.var 0)) (.or (.var 2) (.cmp .ne (.var 4) (.con (.str "written")))))) (own := [4]) (s := [some (.fl (strL cs)), some (.fl (strL ps)), some (.bl d), none, none]) (ns := srules)
        (fun z => !cs.contains z && (d || !(z == "written"))) (by simp only [evI_of, evE_frz, evE_slc, evE_call, evEs_nil, R.bind_ok, h1, S_list_eq, List.append_nil, evO_none, evO_some, evE_con, slcV_fl, cut_strL, h13, hf, itV]) (fun z hz L' => by
          simp only [cprB, wipeL, evG_nm, List.length_cons, List.length_nil, List.set_cons_succ, List.set_cons_zero, Nat.reduceAdd, Nat.reduceLT, if_true, R.bind_ok, evC_some, evE_and, evE_or, evE_cmp, evE_con, evE_var, sget, List.getElem?_cons_succ, List.getElem?_cons_zero, R.of_some, cmpO_fl, cmpO_str, nin_fl, ne_str, Option.map_some, asB_bl]
          cases cs.contains z <;> cases d <;> cases (z == "written") <;> rfl) (by decide)
      have ef : srules.filter (fun z => !cs.contains z && (d || !(z == "written"))) = (stateF d).filter fun z => !cs.contains z := by
        unfold stateF
        rw [List.filter_filter]
      rw [ef] at ec
      have hb : ((stateF d).filter fun z => !cs.contains z).length ≤ 13 := Nat.le_trans (List.length_filter_le _ _) hl
      have go : SWp (evSs T C F_lmissing.body [some (.fl (strL cs)), some (.fl (strL ps)), some (.bl d), none, none] L) No No No fun v L' => v = .ref L.length ∧ L' = L ++ [.lst (strL (missF cs ps d))] := by
        have fin : ∀ ms : List String, SWp (evSs T C [.ret (.var 3)] [some (.fl (strL cs)), some (.fl (strL ps)), some (.bl d), some (.ref L.length), none] (L ++ [.lst (strL ms)])) No No No fun v L' => v = .ref L.length ∧ L' = L ++ [.lst (strL ms)] := by
          intro ms
          refine SWp_cons ?_
          simp [sget]
        have second : ∀ ms : List String, ms.length < 1000 → SWp (evSs T C [.ite (.and (.cmp .nin (.con (.str "prompt_store")) (.var 1)) (.and (.cmp .nin (.con (.str "single")) (.var 1)) (.cmp .nin (.con (.str "stop_store")) (.var 1)))) [.ite (.and (.cmp .nin (.con (.str "drain_stores")) (.var 0)) (.cmp .nin (.con (.str "tell_stores")) (.var 0))) [.exp (.mth (.var 3) "append" [.con (.str "stores")] [])] []] [], .ret (.var 3)] [some (.fl (strL cs)), some (.fl (strL ps)), some (.bl d), some (.ref L.length), none] (L ++ [.lst (strL ms)])) No No No
            fun v L' => v = .ref L.length ∧ L' = L ++ [.lst (strL (ms ++ (if ((!ps.contains "prompt_store" && (!ps.contains "single" && !ps.contains "stop_store")) && (!cs.contains "drain_stores" && !cs.contains "tell_stores")) then ["stores"] else [])))] := by
          intro ms hm
          refine SWp_cons ?_
          simp only [evS_ite', evE_and, evE_cmp, evE_con, evE_var, sget, List.getElem?_cons_succ, List.getElem?_cons_zero, R.of_some, R.bind_ok, cmpO_fl, nin_fl, Option.map_some, asB_bl]
          generalize ps.contains "prompt_store" = w1, ps.contains "single" = w2, ps.contains "stop_store" = w3
          cases w1 <;> cases w2 <;> cases w3 <;> simp only [Bool.not_true, Bool.not_false, Bool.and_true, Bool.and_false, Bool.true_and, Bool.false_and, Bool.false_eq_true, if_true, if_false, R.bind_ok, asB_bl, R.toS_ok, SWp_toS, RWp_ok, evSs_nil, SWp_nx, List.append_nil] <;> first | exact fin _ | skip
          refine SWp_cons ?_
          simp only [evS_ite', evE_and, evE_cmp, evE_con, evE_var, sget, List.getElem?_cons_succ, List.getElem?_cons_zero, R.of_some, R.bind_ok, cmpO_fl, nin_fl, Option.map_some, asB_bl]
          generalize cs.contains "drain_stores" = w1, cs.contains "tell_stores" = w2
          cases w1 <;> cases w2 <;> simp only [Bool.not_true, Bool.not_false, Bool.and_true, Bool.and_false, Bool.true_and, Bool.false_and, Bool.false_eq_true, if_true, if_false, R.bind_ok, asB_bl, R.toS_ok, SWp_toS, RWp_ok, evSs_nil, SWp_nx, List.append_nil] <;> first | exact fin _ | skip
          refine SWp_cons ?_
          simp only [evS_exp, evE_mth, evE_var, evEs_cons, evEs_nil, evE_con, sget, List.getElem?_cons_succ, List.getElem?_cons_zero, R.of_some, R.bind_ok, mthV_last, app_last hm, R.toS_ok, SWp_nx, evSs_nil]
          exact fin _
        simp only [F_lmissing]
        refine SWp_cons ?_
        rw [evS_asg, SWp_toS, RWp_bind, ec, RWp_ok]
        simp only [evG_nm, List.length_cons, List.length_nil, List.set_cons_succ, List.set_cons_zero, Nat.reduceAdd, Nat.reduceLT, if_true, RWp_ok, SWp_nx]
        unfold missF
        rw [val_eq, sto_eq]
        generalize ((stateF d).filter fun z => !cs.contains z) = ms at hb
        refine SWp_cons ?_
        simp only [evS_ite', evE_and, evE_cmp, evE_con, evE_var, sget, List.getElem?_cons_succ, List.getElem?_cons_zero, R.of_some, R.bind_ok, cmpO_fl, nin_fl, Option.map_some, asB_bl]
        have sec := second
        generalize ps.contains "eager" = w1, ps.contains "single" = w2 at *
        cases w1 <;> cases w2 <;> simp only [Bool.not_true, Bool.not_false, Bool.and_true, Bool.and_false, Bool.true_and, Bool.false_and, Bool.false_eq_true, if_true, if_false, R.bind_ok, asB_bl, R.toS_ok, SWp_toS, RWp_ok, evSs_nil, SWp_nx, List.append_nil] at second ⊢ <;> first | exact second _ (by omega) | skip
        refine SWp_cons ?_
        simp only [evS_ite', evE_and, evE_cmp, evE_con, evE_var, sget, List.getElem?_cons_succ, List.getElem?_cons_zero, R.of_some, R.bind_ok, cmpO_fl, nin_fl, Option.map_some, asB_bl]
        generalize cs.contains "flush_values" = w1, cs.contains "tell_values" = w2
        cases w1 <;> cases w2 <;> simp only [Bool.not_true, Bool.not_false, Bool.and_true, Bool.and_false, Bool.true_and, Bool.false_and, Bool.false_eq_true, if_true, if_false, R.bind_ok, asB_bl, R.toS_ok, SWp_toS, RWp_ok, evSs_nil, SWp_nx, List.append_nil] <;> first | exact second _ (by omega) | skip
        refine SWp_cons ?_
        simp only [evS_exp, evE_mth, evE_var, evEs_cons, evEs_nil, evE_con, sget, List.getElem?_cons_succ, List.getElem?_cons_zero, R.of_some, R.bind_ok, mthV_last, app_last (show ms.length < 1000 by omega), R.toS_ok, SWp_nx, evSs_nil]
        exact second _ (by simp; omega)
      obtain ⟨v, L', e1, rfl, rfl⟩ := evF_go (f := F_lmissing) (vs := [.fl (strL cs), .fl (strL ps), .bl d]) rfl go
      exact ⟨_, _, e1, Sim.fz hL (by simp) (Nat.le_refl _) (by simp)⟩
    · cases h
  · cases h
/-! ### values that are equal to themselves -/
mutual
/-- the walk of the comparison of a value with itself; 0: not served -/
def szV : LV → Option Nat
  | .non => some 1 | .bl _ => some 1 | .int _ => some 1 | .str _ => some 1
  | .tup xs => (szVs xs).map (· + 1)
  | .fl xs => (szVs xs).map (· + 1)
  | _ => none
def szVs : List LV → Option Nat
  | [] => some 0
  | x :: xs => (szV x).bind fun a => (szVs xs).map (a + ·)
end
mutual
theorem SzE_self {L : LH} : ∀ {x : LV} {k : Nat}, szV x = some k → SzE L x x k
  | .non, k, h => by cases h; exact .non
  | .bl b, k, h => by cases h; exact .bl b
  | .int i, k, h => by cases h; exact .int i
  | .str s, k, h => by cases h; exact .str s
  | .tup xs, k, h => by
    simp only [szV, Option.map_eq_some_iff] at h
    obtain ⟨a, h, rfl⟩ := h
    exact .tup rfl (SzP_self h)
  | .fl xs, k, h => by
    simp only [szV, Option.map_eq_some_iff] at h
    obtain ⟨a, h, rfl⟩ := h
    exact .lst (x := .fl xs) (y := .fl xs) rfl rfl rfl (SzP_self h)
  | .ob _ _ _, k, h => by cases h
  | .ref _, k, h => by cases h
theorem SzP_self {L : LH} : ∀ {x : List LV} {k : Nat}, szVs x = some k → SzP L (x.zip x) k
  | [], k, h => by cases h; exact .nil
  | x :: xs, k, h => by
    simp only [szVs, Option.bind_eq_some_iff, Option.map_eq_some_iff] at h
    obtain ⟨a, h1, b, h2, rfl⟩ := h
    exact .cons (p := (x, x)) (SzE_self h1) (SzP_self h2)
end
theorem S_equal_self {x : LV} {L : LH} {k : Nat} (h : szV x = some k) (hk : k < 6000) : S_equal [x, x] L = .ok (.bl true) L := by
  unfold S_equal
  simp only
  rw [if_pos ⟨k, hk, SzE_self h⟩]
theorem szVs_strL : ∀ ns : List String, szVs (strL ns) = some ns.length
  | [] => rfl
  | a :: r => by simp only [strL_cons, szVs, szV, szVs_strL r, Option.bind_some, Option.map_some, List.length_cons]; congr 1; omega
theorem S_equal_tupS {ns : List String} {L : LH} (h : ns.length < 5000) : S_equal [.tup (strL ns), .tup (strL ns)] L = .ok (.bl true) L :=
  S_equal_self (k := ns.length + 1) (by simp [szV, szVs_strL]) (by omega)
theorem S_equal_flS {ns : List String} {L : LH} (h : ns.length < 5000) : S_equal [.fl (strL ns), .fl (strL ns)] L = .ok (.bl true) L :=
  S_equal_self (k := ns.length + 1) (by simp [szV, szVs_strL]) (by omega)
theorem S_equal_bl {b : Bool} {L : LH} : S_equal [.bl b, .bl b] L = .ok (.bl true) L := S_equal_self (k := 1) rfl (by decide)
theorem S_equal_int {b : Int} {L : LH} : S_equal [.int b, .int b] L = .ok (.bl true) L := S_equal_self (k := 1) rfl (by decide)
theorem S_equal_str {b : String} {L : LH} : S_equal [.str b, .str b] L = .ok (.bl true) L := S_equal_self (k := 1) rfl (by decide)
theorem S_equal_non {L : LH} : S_equal [.non, .non] L = .ok (.bl true) L := S_equal_self (k := 1) rfl (by decide)
section
variable {T : Tbl} {C : Orc} {s : Sl} {L : LH}
theorem cprB_flt {i : Nat} {cond : Ex} {z : String} {b : Bool} {L' : LH} (hi : i < s.length) (h : evE T C cond (s.set i (some (.str z))) L' = .ok (.bl b) L') :
    cprB T C (.var i) (.nm i) (some cond) [i] s (.str z) L' = .ok (if b = true then some (.str z) else none) L' := by
  have hw : wipeL s [i] = s.set i none := rfl
  simp only [cprB, hw, evG_nm, List.length_set, hi, if_true, R.bind_ok, List.set_set, evC_some, h, asB_bl]
  cases b
  · rfl
  · simp only [if_true, evE_var, sget, List.getElem?_set_self hi, R.of_some, R.bind_ok]
/-- [x for x in names if ..] -/
theorem flt {i : Nat} {src : It} {cond : Ex} {ns : List String} (f : String → Bool) (hi : i < s.length) (h1 : evI T C src s L = .ok (strL ns, none) L) (h2 : ∀ z ∈ ns, ∀ L', evE T C cond (s.set i (some (.str z))) L' = .ok (.bl (f z)) L') (hb : ns.length ≤ big) :
    evE T C (.frz (.cpr (.var i) (.nm i) src (some cond) [i])) s L = .ok (.fl (strL (ns.filter f))) L :=
  frz_strs f h1 (fun z hz L' => cprB_flt hi (h2 z hz L')) hb
theorem sget_of {i : Nat} {v : LV} (h : s[i]? = some (some v)) : sget s i = some v := by simp only [sget, h]
theorem fz_strs (ns : List String) (L : LH) : fzV L (.ref L.length) (L ++ [.lst (strL ns)]) = .ok (.fl (strL ns)) L := fzV_lst (by simp)
/-- a written list of names -/
theorem frz_names (ns : List String) (h : ns.length ≤ 1000) : evE T C (.frz (.lst (ns.map fun z => .con (.str z)))) s L = .ok (.fl (strL ns)) L := by
  have e : ∀ ns : List String, evEs T C (ns.map fun z => .con (.str z)) s L = .ok (strL ns) L := by
    intro ns
    induction ns with
    | nil => simp
    | cons a r ih => simp only [List.map_cons, evEs_cons, evE_con, R.bind_ok, ih]; rfl
  rw [evE_frz, evE_lst, e]
  simp only [R.bind_ok, strL_len, big_val]
  rw [if_pos (by omega), R.bind_ok, fz_strs]
theorem rng_ok {n : Nat} {L' : LH} (h : n < 1000000) : rngV [.int n] L' = .ok ((List.range n).map fun (k : Nat) => .int (0 + k), none) L' := by
  simp only [rngV]; rw [if_pos ⟨by omega, by omega⟩]; rfl
end
theorem pickF_lt (ds : List Int) (a : Int) {m : Int} (h : 0 < m) : 0 ≤ pickF ds a m ∧ pickF ds a m < m := ⟨Int.emod_nonneg _ (by omega), Int.emod_lt_of_pos _ h⟩
theorem idx_pick {ns : List String} {i : Int} {L : LH} (h0 : 0 ≤ i) (h1 : i < ns.length) : ∃ z, z ∈ ns ∧ idxV (.fl (strL ns)) (.int i) L = some (.str z) := by
  have hl : i.toNat < ns.length := by omega
  refine ⟨ns[i.toNat], List.getElem_mem hl, ?_⟩
  have := idx_strL (L := L) hl
  rw [show ((i.toNat : Nat) : Int) = i from by omega, List.getElem?_eq_getElem hl] at this
  exact this
def goodN (known ns : List String) : Bool := okN known ns && decide (ordF known ns = ns)
theorem good_filter {known : List String} (h : okN known known = true) (p : String → Bool) : goodN known (known.filter p) = true := by
  simp only [goodN, Bool.and_eq_true, decide_eq_true_eq]
  exact ⟨okN_filter h, ordF_filter⟩
theorem goodN_iff {known ns : List String} : goodN known ns = true ↔ okN known ns = true ∧ ordF known ns = ns := by
  simp only [goodN, Bool.and_eq_true, decide_eq_true_eq]
theorem filter_filter_good {known ns : List String} (hk : okN known known = true) (h : goodN known ns = true) (p : String → Bool) : goodN known (ns.filter p) = true := by
  obtain ⟨h1, h2⟩ := goodN_iff.mp h
  have : ns.filter p = known.filter fun z => p z && ns.contains z := by
    conv => lhs; rw [← h2]
    unfold ordF
    rw [List.filter_filter]
  rw [this]
  exact good_filter hk _
/-- an object made of good names -/
theorem mk_ob {T C} {K : String} {known : List String} (hC : C (K ++ ".__init__") = S_init known) {cs : List String} (h : goodN known cs = true) {s : Sl} {i : Nat} {L : LH} (hs : sget s i = some (.fl (strL cs))) : evE T C (.frz (.new K [.var i] [])) s L = .ok (obN K cs) L := by
  obtain ⟨h1, h2⟩ := goodN_iff.mp h
  have := frz_new (T := T) (C := C) (K := K) (xs := [.var i]) (s := s) (L := L) (v := .fl (strL cs)) (by simp [hs]) hC (namesOf_fl cs) h1
  rwa [h2] at this
end G
set_option Elab.async false
set_option linter.all false
set_option maxRecDepth 100000
set_option maxHeartbeats 4000000
/-! G21: sets of names as tuples: their order, sorted, holds_set, least_sets. -/
namespace G
open PySem
def tN (ns : List String) : LV := .tup (strL ns)
def tNs (ss : List (List String)) : List LV := ss.map tN
@[simp] theorem tNs_len (ss : List (List String)) : (tNs ss).length = ss.length := List.length_map _
@[simp] theorem tNs_nil : tNs [] = [] := rfl
theorem tNs_app (a b : List (List String)) : tNs (a ++ b) = tNs a ++ tNs b := List.map_append
@[simp] theorem tN_cl (n : Nat) (ns : List String) : clV n (tN ns) = true := by simp [tN, clV]
@[simp] theorem tNs_cl (n : Nat) : ∀ ss : List (List String), clVs n (tNs ss) = true
  | [] => rfl
  | a :: r => by
    have := tNs_cl n r
    simp only [tNs, List.map_cons, clVs, tN_cl, Bool.true_and] at this ⊢
    exact this
def unT : List LV → Option (List (List String))
  | [] => some []
  | .tup xs :: r => (unS xs).bind fun ns => (unT r).map (ns :: ·)
  | _ :: _ => none
@[simp] theorem unT_tNs : ∀ ss : List (List String), unT (tNs ss) = some ss
  | [] => rfl
  | a :: r => by
    have := unT_tNs r
    simp only [tNs, List.map_cons, tN, unT, unS_strL, Option.bind_some] at this ⊢
    rw [this]
    rfl
theorem of_unT : ∀ {xs : List LV} {ss : List (List String)}, unT xs = some ss → xs = tNs ss
  | [], ss, h => by simp [unT] at h; subst h; rfl
  | x :: r, ss, h => by
    cases x with
    | tup ys =>
      simp only [unT, Option.bind_eq_some_iff, Option.map_eq_some_iff] at h
      obtain ⟨ns, h1, rs, h2, rfl⟩ := h
      rw [of_unS h1, of_unT h2]
      rfl
    | _ => simp [unT] at h
/-! ### as data -/
theorem toDs_strL (n : Nat) (L : LH) : ∀ ns : List String, toDs n L (strL ns) = some (ns.map .str)
  | [] => by simp [toDs]
  | a :: r => by rw [strL_cons, toDs, toD, Option.bind_some, toDs_strL n L r]; rfl
def dN (ns : List String) : D := .tup (ns.map .str)
theorem toD_tN (n : Nat) (L : LH) (ns : List String) : toD (n + 1) L (tN ns) = some (dN ns) := by
  rw [tN, toD, toDs_strL]
  rfl
theorem toDs_tNs (n : Nat) (L : LH) : ∀ ss : List (List String), toDs (n + 1) L (tNs ss) = some (ss.map dN)
  | [] => by simp [toDs]
  | a :: r => by
    have := toDs_tNs n L r
    simp only [tNs, List.map_cons] at this ⊢
    rw [toDs, toD_tN, Option.bind_some, this]
    rfl
theorem eqDs_str : ∀ a b : List String, eqDs (a.map .str) (b.map .str) = (a == b)
  | [], [] => by simp [eqDs]
  | [], _ :: _ => by simp [eqDs]
  | _ :: _, [] => by simp [eqDs]
  | x :: a, y :: b => by simp only [List.map_cons, eqDs, eqD, eqDs_str a b, List.cons_beq_cons]
theorem eqD_dN (a b : List String) : eqD (dN a) (dN b) = (a == b) := by simp only [dN, eqD, eqDs_str]
theorem ne_tN {L : LH} {a b : List String} : cmpV .ne (tN a) (tN b) L = some (!(a == b)) := by
  simp only [cmpV, toD_tN, eqD_dN]
theorem eq_tN {L : LH} {a b : List String} : cmpV .eq (tN a) (tN b) L = some (a == b) := by
  simp only [cmpV, toD_tN, eqD_dN]
theorem any_dN (a : List String) (ss : List (List String)) : ((ss.map dN).any fun e => eqD e (dN a)) = ss.contains a := by
  induction ss with
  | nil => rfl
  | cons b r ih =>
    rw [List.map_cons, List.any_cons, ih, eqD_dN, List.contains_cons]
    congr 1
    exact Bool.beq_comm
theorem flat_tN (a : List String) : flatL (tN a) = false := rfl
theorem nin_tNs {L : LH} {v : LV} {a : List String} {ss : List (List String)} (hs : seqAt L v = some (tNs ss)) (hd : toD 60 L v = some (.lst (ss.map dN)) ∨ toD 60 L v = some (.tup (ss.map dN))) : cmpV .nin (tN a) v L = some (!ss.contains a) := by
  have h1 : inD (tN a) v L = some (ss.contains a) := by
    unfold inD
    rcases hd with hd | hd <;> rw [hd, toD_tN] <;> simp only [any_dN]
  simp only [cmpV, hs, flat_tN, Bool.false_eq_true, false_and, if_false, h1, Option.map_some]
/-! ### the order by number of names, then by names -/
def pvN (ns : List String) : LV := .tup [.int ns.length, tN ns]
def pdN (ns : List String) : D := .tup [.int ns.length, dN ns]
theorem toDs_pr (n : Nat) (L : LH) : ∀ ss : List (List String), toDs (n + 2) L (ss.map pvN) = some (ss.map pdN)
  | [] => by simp [toDs]
  | a :: r => by
    rw [List.map_cons, toDs, pvN, toD, toDs, toD, Option.bind_some, toDs, toD_tN, Option.bind_some, toDs, toDs_pr n L r]
    rfl
theorem alike_str : ∀ a b : List String, alikeDs (a.map .str) (b.map .str) = true
  | [], _ => by simp [alikeDs]
  | _ :: _, [] => by simp [alikeDs]
  | x :: a, y :: b => by simp only [List.map_cons, alikeDs, alikeD, alike_str a b, Bool.and_self]
theorem alike_pr (a b : List String) : alikeD (pdN a) (pdN b) = true := by
  simp only [pdN, dN, alikeD, alikeDs, alike_str, Bool.and_self]
theorem sortOk_pr (ss : List (List String)) : sortOk (ss.map pdN) = true := by
  simp only [sortOk, Bool.and_eq_true, Bool.or_eq_true, List.all_eq_true, List.mem_map]
  refine ⟨?_, .inl ?_⟩
  · rintro d ⟨a, _, rfl⟩ e ⟨b, _, rfl⟩
    exact alike_pr a b
  · rintro d ⟨a, _, rfl⟩
    rfl
def leS (a b : List String) : Bool := !ltD (pdN b) (pdN a)
def srtS (ss : List (List String)) : List (List String) := ss.mergeSort leS
theorem sortF_pr (ss : List (List String)) : sortF (ss.map pvN) (ss.map pdN) = (srtS ss).map pvN := by
  unfold sortF srtS
  have hz : (ss.map pvN).zip (ss.map pdN) = ss.map fun a => (pvN a, pdN a) := by
    induction ss with
    | nil => rfl
    | cons a r ih => simp only [List.map_cons, List.zip_cons_cons, ih]
  rw [hz, ← List.map_mergeSort (r := leS) (s := fun p q : LV × D => !ltD q.2 p.2) (f := fun a => (pvN a, pdN a)) (fun a _ b _ => rfl), List.map_map]
  rfl
theorem sorted_pr {L : LH} {ss : List (List String)} (h : ss.length ≤ 1000) : sortedV [.fl (ss.map pvN)] L = .ok (.ref L.length) (L ++ [.lst ((srtS ss).map pvN)]) := by
  simp only [sortedV, lstAt, toDs_pr, sortOk_pr, List.length_map, true_and]
  rw [if_pos (by simp; omega), sortF_pr]
theorem pr_cl (n : Nat) : ∀ ss : List (List String), clVs n (ss.map pvN) = true
  | [] => rfl
  | a :: r => by simp [clVs, clV, pvN, pr_cl n r]
theorem srt_len (ss : List (List String)) : (srtS ss).length = ss.length := List.length_mergeSort _
/-! ### holds_set -/
def F_holds : Fn := ⟨2, 3, [.for (.nm 2) (.of (.var 1)) [.ite (.cmp .nin (.var 2) (.var 0)) [.ret (.con (.bl false))] []],
    .ret (.con (.bl true))]⟩
def S_holds (args : List LV) (L : LH) : R LV := match args with
  | [.tup xs, .tup ys] => match unS xs, unS ys with
    | some ns, some ps => .ok (.bl (ps.all fun z => ns.contains z)) L
    | _, _ => .stuck
  | _ => .stuck
theorem S_holds_eq {L : LH} {ns ps : List String} : S_holds [tN ns, tN ps] L = .ok (.bl (ps.all fun z => ns.contains z)) L := by simp [S_holds, tN]
theorem m_holds {T C} : Meets (evF T C F_holds) S_holds := by
  intro args L r2 L2 hL ha h
  unfold S_holds at h
  split at h
  · rename_i xs ys
    split at h
    · rename_i ns ps e1 e2
      cases h
      have e1 := of_unS e1
      have e2 := of_unS e2
      subst e1 e2
      have go : SWp (evSs T C F_holds.body [some (.tup (strL ns)), some (.tup (strL ps)), none] L) No No No fun v L' => v = .bl (ps.all fun z => ns.contains z) ∧ L' = L := by
        simp only [F_holds]
        refine SWp_cons ?_
        simp only [evS_for, evI_of, evE_var, sget, List.getElem?_cons_succ, List.getElem?_cons_zero, R.of_some, R.bind_ok, itV, SWp_toS, RWp_ok]
        refine (forL_ix (fun j s L' => (∃ y, s = [some (.tup (strL ns)), some (.tup (strL ps)), y]) ∧ L' = L ∧ ((ps.take j).all fun z => ns.contains z) = true) (fun _ _ _ _ => rfl) ?_ ⟨⟨_, rfl⟩, rfl, rfl⟩).mono ?_ (fun _ _ h => h) (fun _ _ h => h) (fun _ _ h => h)
        · rintro i x hx s L' ⟨⟨y, rfl⟩, hL', hA⟩
          subst L'
          rw [strL, List.getElem?_map] at hx
          obtain ⟨z, hz, rfl⟩ := Option.map_eq_some_iff.mp hx
          refine SWp_body ?_
          simp only [evG_nm, List.length_cons, List.length_nil, List.set_cons_succ, List.set_cons_zero, Nat.reduceAdd, Nat.reduceLT, if_true, RWp_ok]
          refine SWp_cons ?_
          simp only [evS_ite', evE_cmp, evE_var, sget, List.getElem?_cons_succ, List.getElem?_cons_zero, R.of_some, R.bind_ok, cmpO_tup, nin_tup, Option.map_some, asB_bl, R.toS_ok]
          have ht : ps.take (i + 1) = ps.take i ++ [z] := by rw [List.take_add_one, hz]; rfl
          cases hc : ns.contains z with
          | true =>
            simp only [Bool.not_true, Bool.false_eq_true, if_false, evSs_nil, SWp_nx]
            exact ⟨⟨_, rfl⟩, by trivial, by rw [ht, List.all_append, hA, List.all_cons, hc]; rfl⟩
          | false =>
            simp only [Bool.not_false, if_true]
            refine SWp_cons ?_
            simp only [evS_ret, evE_con, R.toS_ok, SWp_rt]
            refine ⟨?_, by trivial⟩
            have : (ps.all fun z => ns.contains z) = false := by
              rw [List.all_eq_false]
              exact ⟨z, List.mem_of_getElem? hz, by rw [hc]; exact Bool.false_ne_true⟩
            rw [this]
        · rintro s L' ⟨⟨y, rfl⟩, hL', hA⟩
          subst L'
          refine SWp_cons ?_
          simp only [evS_ret, evE_con, R.toS_ok, SWp_rt]
          rw [strL_len, List.take_length] at hA
          exact ⟨by rw [hA], by trivial⟩
      obtain ⟨v, L1, e, q1, q2⟩ := (RWp_evF (f := F_holds) (vs := [.tup (strL ns), .tup (strL ps)]) rfl (go.mono (fun _ _ h => h.elim) (fun _ _ h => h) (fun _ _ h => h) fun _ _ h => h)).ex
      subst q1 q2
      exact ⟨_, _, e, Sim.refl hL rfl (Nat.le_refl _)⟩
    · cases h
  · cases h
end G
set_option Elab.async false
set_option linter.all false
set_option maxRecDepth 100000
set_option maxHeartbeats 4000000
/-! G22: least_sets. -/
namespace G
open PySem
theorem app_lst {L : LH} {ms : List LV} {w : LV} (h : ms.length < 1000) : lmV "append" (.ref L.length) [w] (L ++ [.lst ms]) = .ok .non (L ++ [.lst (ms ++ [w])]) := by
  have : ms.length < big := by simp; omega
  simp [lmV, appendV, this] <;> omega
def addF (kept : List (List String)) (ns : List String) : List (List String) := if (kept.any fun less => less.all fun z => ns.contains z) = true then kept else kept ++ [ns]
def leastF (ss : List (List String)) : List (List String) := (srtS ss).foldl addF []
theorem addF_len (k : List (List String)) (n : List String) : (addF k n).length ≤ k.length + 1 := by
  unfold addF; split <;> simp
theorem foldl_len : ∀ (xs k : List (List String)), (xs.foldl addF k).length ≤ k.length + xs.length
  | [], k => by simp
  | x :: r, k => by
    rw [List.foldl_cons]
    have := foldl_len r (addF k x)
    have := addF_len k x
    simp only [List.length_cons]
    omega
def F_least : Fn := ⟨1, 6, [.asg (.nm 1) (.lst []),
    .for (.tup [.nm 2, .nm 3]) (.of (.frz (.blt "sorted" [.frz (.cpr (.tup [.blt "len" [.var 4], .var 4]) (.nm 4) (.of (.var 0)) none [4])]))) [.ite (.not (.blt "any" [.frz (.cpr (.call "holds_set" [.var 3, .var 5] []) (.nm 5) (.of (.var 1)) none [5])])) [.exp (.mth (.var 1) "append" [.var 3] [])] []],
    .ret (.var 1)]⟩
def S_least (args : List LV) (L : LH) : R LV := match args with
  | [.fl xs] => match unT xs with
    | some ss => if ss.length < 900 then .ok (.fl (tNs (leastF ss))) L else .stuck
    | none => .stuck
  | _ => .stuck
theorem S_least_eq {L : LH} {ss : List (List String)} (h : ss.length < 900) : S_least [.fl (tNs ss)] L = .ok (.fl (tNs (leastF ss))) L := by simp [S_least, h]
/-- the pairs (len(one), one) -/
theorem ev_pairs {T : Tbl} {C : Orc} {s : Sl} {L : LH} {src : It} {i : Nat} {ss : List (List String)} {c : Option (Nat × List LV)} (hi : i < s.length) (h1 : evI T C src s L = .ok (tNs ss, c) L) (hc : ∀ acc, chkOk c (L ++ [.lst acc]) = true) (hl : ss.length < 1000) :
    evE T C (.frz (.cpr (.tup [.blt "len" [.var i], .var i]) (.nm i) src none [i])) s L = .ok (.fl (ss.map pvN)) L := by
  have e0 : ∀ ss : List (List String), (tNs ss).filterMap (fun x => match x with | .tup ys => some (LV.tup [.int ys.length, .tup ys]) | _ => none) = ss.map pvN := by
    intro ss
    induction ss with
    | nil => rfl
    | cons a r ih =>
      simp only [tNs, List.map_cons, List.filterMap_cons, tN] at ih ⊢
      rw [ih]
      simp [pvN, tN]
  rw [frz_cpr' (c := c) (fun x => match x with | .tup ys => some (LV.tup [.int ys.length, .tup ys]) | _ => none) h1 (fun x hx acc => ?_) hc (by simp; omega) (by rw [e0]; exact pr_cl _ _), e0]
  obtain ⟨a, _, rfl⟩ := List.mem_map.mp hx
  have hi' : i < (wipeL s [i]).length := by simpa [wipeL] using hi
  have hg : ∀ v, (((wipeL s [i]).set i (some v)))[i]? = some (some v) := fun v => List.getElem?_set_self hi'
  simp only [cprB, evG_nm, hi', if_true, R.bind_ok, evC_none, evE_tup, evE_blt, evEs_cons, evEs_nil, evE_var, sget, hg, R.of_some, bltV, lenV, tN, seqAt, Option.map_some, List.length_cons, List.length_nil]
  simp
theorem m_least {T C} (hC : C "holds_set" = S_holds) : Meets (evF T C F_least) S_least := by
  intro args L r2 L2 hL ha h
  unfold S_least at h
  split at h
  · rename_i xs
    split at h
    · rename_i ss e1
      split at h
      · rename_i hl
        cases h
        have e1 := of_unT e1
        subst e1
        have go : SWp (evSs T C F_least.body [some (.fl (tNs ss)), none, none, none, none, none] L) No No No fun v L' => v = .ref L.length ∧ L' = L ++ [.lst (tNs (leastF ss))] := by
          simp only [F_least]
          refine SWp_cons ?_
          simp only [evS_asg, evE_lst, evEs_nil, R.bind_ok, List.length_nil, big_val, Nat.zero_le, if_true, evG_nm, List.length_cons, List.set_cons_succ, List.set_cons_zero, Nat.reduceAdd, Nat.reduceLT, R.toS_ok, SWp_nx]
          refine SWp_cons ?_
          have ep := ev_pairs (T := T) (C := C) (s := [some (.fl (tNs ss)), some (.ref L.length), none, none, none, none]) (L := L ++ [.lst []]) (src := .of (.var 0)) (i := 4) (ss := ss) (c := none) (by simp) (by simp only [evI_of, evE_var, sget, List.getElem?_cons_zero, R.of_some, R.bind_ok, itV]) (fun _ => rfl) (by omega)
          have hs := sorted_pr (L := L ++ [.lst []]) (ss := ss) (by omega)
          have hf : fzV (L ++ [LO.lst []]) (.ref (L ++ [LO.lst []]).length) ((L ++ [LO.lst []]) ++ [LO.lst ((srtS ss).map pvN)]) = .ok (.fl ((srtS ss).map pvN)) (L ++ [LO.lst []]) := fzV_lst (pr_cl _ _)
          rw [evS_for, evI_of, evE_frz, evE_blt, evEs_cons, ep, R.bind_ok, evEs_nil, R.bind_ok, R.bind_ok]
          simp only [bltV]
          rw [hs, R.bind_ok, hf, R.bind_ok]
          simp only [itV, SWp_toS, RWp_ok]
          refine (forL_ix (fun j s L' => (∃ y2 y3 y4 y5, s = [some (.fl (tNs ss)), some (.ref L.length), y2, y3, y4, y5]) ∧ L' = L ++ [.lst (tNs (((srtS ss).take j).foldl addF []))]) (fun _ _ _ _ => rfl) ?_ ⟨⟨_, _, _, _, rfl⟩, rfl⟩).mono ?_ (fun _ _ h => h) (fun _ _ h => h) (fun _ _ h => h)
          · rintro i x hx s L' ⟨⟨y2, y3, y4, y5, rfl⟩, hL'⟩
            subst L'
            rw [List.getElem?_map] at hx
            obtain ⟨ns, hn, rfl⟩ := Option.map_eq_some_iff.mp hx
            have ht : (srtS ss).take (i + 1) = (srtS ss).take i ++ [ns] := by rw [List.take_add_one, hn]; rfl
            have hk : (((srtS ss).take i).foldl addF []).length < 900 := by
              have h1 := foldl_len ((srtS ss).take i) []
              have h2 : ((srtS ss).take i).length ≤ (srtS ss).length := by rw [List.length_take]; exact Nat.min_le_right _ _
              rw [srt_len] at h2
              simp only [List.length_nil] at h1
              omega
            rw [ht, List.foldl_append]
            generalize ((srtS ss).take i).foldl addF [] = kept at hk
            refine SWp_body ?_
            simp only [pvN, evG_tup, evGs_cons, evGs_nil, evG_nm, List.length_cons, List.length_nil, List.set_cons_succ, List.set_cons_zero, Nat.reduceAdd, Nat.reduceLT, if_true, R.bind_ok, RWp_ok]
            refine SWp_cons ?_
            have eb : evE T C (.frz (.cpr (.call "holds_set" [.var 3, .var 5] []) (.nm 5) (.of (.var 1)) none [5])) [some (.fl (tNs ss)), some (.ref L.length), some (.int ns.length), some (tN ns), y4, y5] (L ++ [.lst (tNs kept)]) = .ok (.fl ((kept.map fun less => less.all fun z => ns.contains z).map .bl)) (L ++ [.lst (tNs kept)]) := by
              have e0 : ∀ kept : List (List String), (tNs kept).filterMap (fun x => match x with | .tup ys => (unS ys).map fun less => LV.bl (less.all fun z => ns.contains z) | _ => none) = (kept.map fun less => less.all fun z => ns.contains z).map .bl := by
                intro kept
                induction kept with
                | nil => rfl
                | cons a r ih =>
                  simp only [tNs, List.map_cons, List.filterMap_cons, tN, unS_strL, Option.map_some] at ih ⊢
                  rw [ih]
              rw [frz_cpr' (c := some (L.length, tNs kept)) (xs := tNs kept) (fun x => match x with | .tup ys => (unS ys).map fun less => LV.bl (less.all fun z => ns.contains z) | _ => none) (by simp [sget, itV, lstAt, seqAt]) (fun x hx acc => ?_) (fun acc => by simp [chkOk]) (by simp; omega) (by rw [e0]; exact bls_cl _ _), e0]
              obtain ⟨a, _, rfl⟩ := List.mem_map.mp hx
              simp only [cprB, wipeL, evG_nm, List.length_cons, List.length_nil, List.set_cons_succ, List.set_cons_zero, Nat.reduceAdd, Nat.reduceLT, if_true, R.bind_ok, evC_none, evE_call, evEs_cons, evEs_nil, evE_var, sget, List.getElem?_cons_succ, List.getElem?_cons_zero, R.of_some, List.append_nil, hC, S_holds_eq]
              simp only [tN, unS_strL, Option.map_some]
            rw [evS_ite', evE_not, evE_blt, evEs_cons, eb, R.bind_ok, evEs_nil, R.bind_ok, R.bind_ok]
            simp only [bltV, anyV, lstAt, Option.bind_some, bools_map, Option.map_some, R.of_some, R.bind_ok, asB_bl, R.toS_ok, List.any_map, SWp_toS, RWp_ok]
            have ea : (kept.any (id ∘ fun less => less.all fun z => ns.contains z)) = kept.any fun less => less.all fun z => ns.contains z := rfl
            rw [ea]
            simp only [List.foldl_cons, List.foldl_nil, addF]
            cases hq : (kept.any fun less => less.all fun z => ns.contains z) with
            | true =>
              simp only [Bool.not_true, Bool.false_eq_true, if_false, if_true, evSs_nil, SWp_nx]
              exact ⟨⟨_, _, _, _, rfl⟩, by trivial⟩
            | false =>
              simp only [Bool.not_false, if_true, Bool.false_eq_true, if_false]
              refine SWp_cons ?_
              simp only [evS_exp, evE_mth, evE_var, evEs_cons, evEs_nil, sget, List.getElem?_cons_succ, List.getElem?_cons_zero, R.of_some, R.bind_ok, mthV_last, app_lst (show (tNs kept).length < 1000 by simp; omega), R.toS_ok, SWp_nx, evSs_nil]
              exact ⟨⟨_, _, _, _, rfl⟩, by rw [tNs_app]; rfl⟩
          · rintro s L' ⟨⟨y2, y3, y4, y5, rfl⟩, hL'⟩
            subst L'
            refine SWp_cons ?_
            simp only [evS_ret, evE_var, sget, List.getElem?_cons_succ, List.getElem?_cons_zero, R.of_some, R.toS_ok, SWp_rt]
            rw [List.length_map, List.take_length]
            exact ⟨by trivial, rfl⟩
        obtain ⟨v, L1, e, q1, q2⟩ := (RWp_evF (f := F_least) (vs := [.fl (tNs ss)]) rfl (go.mono (fun _ _ h => h.elim) (fun _ _ h => h) (fun _ _ h => h) fun _ _ h => h)).ex
        subst q1 q2
        exact ⟨_, _, e, Sim.fz hL (by simp) (Nat.le_refl _) (tNs_cl _ _)⟩
      · cases h
    · cases h
  · cases h
end G
set_option Elab.async false
set_option linter.all false
set_option maxRecDepth 100000
set_option maxHeartbeats 4000000
/-! G23: whole_ways, least_carries; the law's own least sets. -/
namespace G
open PySem
section
variable {α : Type} (le : α → α → Bool)
/-- the same sort, that the kernel can run -/
def mgF : Nat → List α → List α → List α
  | 0, _, _ => []
  | _ + 1, [], ys => ys
  | _ + 1, x :: xs, [] => x :: xs
  | n + 1, x :: xs, y :: ys => if le x y then x :: mgF n xs (y :: ys) else y :: mgF n (x :: xs) ys
theorem mgF_eq : ∀ (n : Nat) (a b : List α), a.length + b.length < n → mgF le n a b = List.merge a b le
  | 0, _, _, h => by omega
  | n + 1, [], ys, h => by simp [mgF]
  | n + 1, x :: xs, [], h => by simp [mgF]
  | n + 1, x :: xs, y :: ys, h => by
    rw [mgF, List.cons_merge_cons, mgF_eq n xs (y :: ys) (by simp at h ⊢; omega), mgF_eq n (x :: xs) ys (by simp at h ⊢; omega)]
def msF : Nat → List α → List α
  | 0, l => l
  | n + 1, l => match l with
    | [] => []
    | [a] => [a]
    | a :: b :: r => mgF le ((a :: b :: r).length + 1) (msF n ((a :: b :: r).take (((a :: b :: r).length + 1) / 2))) (msF n ((a :: b :: r).drop (((a :: b :: r).length + 1) / 2)))
theorem msF_eq : ∀ (n : Nat) (l : List α), l.length ≤ n → msF le n l = l.mergeSort le
  | 0, l, h => by
    have : l = [] := List.length_eq_zero_iff.mp (by omega)
    subst this
    simp [msF]
  | n + 1, [], h => by simp [msF]
  | n + 1, [a], h => by simp [msF]
  | n + 1, a :: b :: r, h => by
    let sp := List.MergeSort.Internal.splitInTwo (⟨a :: b :: r, rfl⟩ : { l : List α // l.length = (a :: b :: r).length })
    have ef : (a :: b :: r).mergeSort le = List.merge (sp.1.1.mergeSort le) (sp.2.1.mergeSort le) le := by rw [List.mergeSort]
    have e1 : sp.1.1 = (a :: b :: r).take (((a :: b :: r).length + 1) / 2) := by rw [show sp.1 = _ from List.MergeSort.Internal.splitInTwo_fst _]
    have e2 : sp.2.1 = (a :: b :: r).drop (((a :: b :: r).length + 1) / 2) := by rw [show sp.2 = _ from List.MergeSort.Internal.splitInTwo_snd _]
    have l1 : ((a :: b :: r).take (((a :: b :: r).length + 1) / 2)).length ≤ n := by simp only [List.length_take, List.length_cons] at h ⊢; omega
    have l2 : ((a :: b :: r).drop (((a :: b :: r).length + 1) / 2)).length ≤ n := by simp only [List.length_drop, List.length_cons] at h ⊢; omega
    have l3 : ((a :: b :: r).take (((a :: b :: r).length + 1) / 2)).length + ((a :: b :: r).drop (((a :: b :: r).length + 1) / 2)).length = (a :: b :: r).length := by rw [List.length_take, List.length_drop]; omega
    rw [ef, e1, e2, msF, msF_eq n _ l1, msF_eq n _ l2, mgF_eq]
    rw [List.length_mergeSort, List.length_mergeSort, l3]
    omega
end
def srK (ss : List (List String)) : List (List String) := msF leS ss.length ss
theorem srK_eq (ss : List (List String)) : srtS ss = srK ss := (msF_eq leS _ ss (Nat.le_refl _)).symm
def stepW (ws : List (List String)) (vs : List String) : List (List String) := ws.flatMap fun w => vs.map fun v => w ++ [v]
def waysB (a b d : Bool) : List (List String) :=
  let w1 := if a then stepW [stateF d] ["flush_values", "tell_values"] else [stateF d]
  if b then stepW w1 ["drain_stores", "tell_stores"] else w1
def missB (a b : Bool) (cs : List String) (d : Bool) : List String := (stateF d).filter (fun z => !cs.contains z) ++
  (if a && !(["flush_values", "tell_values"].any fun z => cs.contains z) then ["values"] else []) ++ (if b && !(["drain_stores", "tell_stores"].any fun z => cs.contains z) then ["stores"] else [])
theorem missF_eq (cs ps : List String) (d : Bool) : missF cs ps d = missB (defF ps) (bufF ps) cs d := rfl
def lways : List String := ["flush_values", "tell_values", "drain_stores", "tell_stores"]
def choF (k : Nat) : List String := lways.filter fun z => decide ((((k : Nat) : Int) / [1, 2, 4, 8].getD (lways.idxOf z) 1) % 2 = 1)
def wholeB (a b d : Bool) : List (List String) := ((List.range 16).filter fun k => (missB a b (stateF d ++ choF k) d).length == 0).map fun k => stateF d ++ choF k
def addL (ss kept : List (List String)) (one : List String) : List (List String) := if ((ss.filter fun two => !(two == one) && (two.filter fun z => one.contains z).length == two.length).length == 0 && !kept.contains one) = true then kept ++ [one] else kept
def lsetsF (ss : List (List String)) : List (List String) := srtS (ss.foldl (addL ss) [])

theorem least_ways : ∀ a b d, leastF (waysB a b d) = waysB a b d := by
  unfold leastF
  simp only [srK_eq]
  decide +kernel
theorem lsets_whole : ∀ a b d, lsetsF (wholeB a b d) = waysB a b d := by
  unfold lsetsF
  simp only [srK_eq]
  decide +kernel

theorem ways_good : ∀ a b d, (waysB a b d).all (goodN crules) = true := by decide +kernel
theorem ways_len : ∀ a b d, (waysB a b d).length ≤ 4 ∧ (waysB a b d).all (fun w => decide (w.length ≤ 15)) = true := by decide +kernel
/-! ### two fors -/
def cpr2B (T : Tbl) (C : Orc) (elt : Ex) (tg : Tg) (cond : Option Ex) (tg1 : Tg) (src1 : It) (cond1 : Option Ex) (own own1 : List Nat) (s : Sl) (d : Nat) (x : LV) (L : LH) : R Unit := (evG T C tg x (wipeL s own) L).bind fun s' L' => (evC T C cond s' L').bind fun b L2 =>
  if b = true then (evI T C src1 s' L2).bind fun p1 L3 => cprL (cprB T C elt tg1 cond1 own1 s') p1.2 d p1.1 L3 else .ok () L2
theorem evE_cpr2 {T : Tbl} {C : Orc} {s : Sl} {L : LH} (elt : Ex) (tg : Tg) (src : It) (cond : Option Ex) (tg1 : Tg) (src1 : It) (cond1 : Option Ex) (own own1 : List Nat) : evE T C (.cpr2 elt tg src cond tg1 src1 cond1 own own1) s L = (evI T C src s L).bind fun p L1 =>
    (cpr2L (cpr2B T C elt tg cond tg1 src1 cond1 own own1 s L1.length) p.2 p.1 (L1 ++ [.lst []])).bind fun _ L2 => .ok (.ref L1.length) L2 := by
  simp only [evE]
  rfl
theorem cpr2_ok {T : Tbl} {C : Orc} {s : Sl} {L L1 : LH} {elt : Ex} {tg : Tg} {src : It} {cond : Option Ex} {tg1 : Tg} {src1 : It} {cond1 : Option Ex} {own own1 : List Nat} {xs : List LV} (g : LV → List LV) (h1 : evI T C src s L = .ok (xs, none) L1)
    (h2 : ∀ x ∈ xs, ∀ acc, acc.length + (g x).length ≤ big → cpr2B T C elt tg cond tg1 src1 cond1 own own1 s L1.length x (L1 ++ [.lst acc]) = .ok () (L1 ++ [.lst (acc ++ g x)])) (hb : (xs.flatMap g).length ≤ big) :
    evE T C (.cpr2 elt tg src cond tg1 src1 cond1 own own1) s L = .ok (.ref L1.length) (L1 ++ [.lst (xs.flatMap g)]) := by
  have go : ∀ (ys acc : List LV), (∀ x ∈ ys, x ∈ xs) → acc.length + (ys.flatMap g).length ≤ big → cpr2L (cpr2B T C elt tg cond tg1 src1 cond1 own own1 s L1.length) none ys (L1 ++ [.lst acc]) = .ok () (L1 ++ [.lst (acc ++ ys.flatMap g)]) := by
    intro ys
    induction ys with
    | nil => intro acc _ _; simp [cpr2L, chkOk]
    | cons y r ih =>
      intro acc hy hl
      rw [List.flatMap_cons, List.length_append] at hl
      rw [cpr2L, if_pos (show chkOk none (L1 ++ [LO.lst acc]) = true from rfl), h2 y (hy y List.mem_cons_self) acc (by omega), R.bind_ok, ih _ (fun x hx => hy x (List.mem_cons_of_mem _ hx)) (by rw [List.length_append]; omega), List.flatMap_cons, List.append_assoc]
  rw [evE_cpr2, h1, R.bind_ok]
  have := go xs [] (fun _ h => h) (by simpa using hb)
  simp only [List.nil_append] at this
  rw [this, R.bind_ok]
/-- [way + (name,) for way in ways for name in NAMES] -/
theorem ev_step {T : Tbl} {C : Orc} {s : Sl} {L : LH} {gl : String} {ws : List (List String)} {vs : List String} {y0 y1 y3 y4 : Option LV} (hs : s = [y0, y1, some (.fl (tNs ws)), y3, y4]) (hg : T.glob gl = some (.tup (strL vs))) (hl : ws.length ≤ 100 ∧ vs.length ≤ 100) (hw : ws.all (fun w => decide (w.length ≤ 1000)) = true) :
    evE T C (.frz (.cpr2 (.bin .add (.var 3) (.tup [.var 4])) (.nm 3) (.of (.var 2)) none (.nm 4) (.of (.glo gl)) none [3, 4] [4])) s L = .ok (.fl (tNs (stepW ws vs))) L := by
  subst hs
  have hfl : ∀ ws : List (List String), (tNs ws).flatMap (fun x => match x with | .tup ys => vs.map fun v => LV.tup (ys ++ [.str v]) | _ => []) = tNs (stepW ws vs) := by
    intro ws
    induction ws with
    | nil => rfl
    | cons a r ih =>
      have e1 : tNs (a :: r) = tN a :: tNs r := rfl
      have e2 : stepW (a :: r) vs = (vs.map fun v => a ++ [v]) ++ stepW r vs := rfl
      rw [e1, e2, tNs_app, List.flatMap_cons, ih]
      congr 1
      simp only [tN, tNs, List.map_map]
      refine List.map_congr_left fun v _ => ?_
      simp [strL, tN]
  have hlen : (stepW ws vs).length ≤ big := by
    have : ∀ ws : List (List String), (stepW ws vs).length = ws.length * vs.length := by
      intro ws
      induction ws with
      | nil => simp [stepW]
      | cons a r ih =>
        have e2 : stepW (a :: r) vs = (vs.map fun v => a ++ [v]) ++ stepW r vs := rfl
        rw [e2, List.length_append, ih, List.length_map, List.length_cons, Nat.succ_mul]
        omega
    rw [this]
    have := Nat.mul_le_mul hl.1 hl.2
    simp only [big_val]
    omega
  rw [evE_frz, cpr2_ok (L1 := L) (xs := tNs ws) (fun x => match x with | .tup ys => vs.map fun v => LV.tup (ys ++ [.str v]) | _ => []) (by simp only [evI_of, evE_var, sget, List.getElem?_cons_succ, List.getElem?_cons_zero, R.of_some, R.bind_ok, itV]) (fun x hx acc hb => ?_) (by rw [hfl, tNs_len]; exact hlen), R.bind_ok, hfl, fzV_lst (tNs_cl _ _)]
  obtain ⟨w, hw', rfl⟩ := List.mem_map.mp hx
  have hwl : w.length ≤ 1000 := of_decide_eq_true (List.all_eq_true.mp hw w hw')
  simp only [tN] at hb ⊢
  simp only [cpr2B, wipeL, evG_nm, List.length_cons, List.length_nil, List.set_cons_succ, List.set_cons_zero, Nat.reduceAdd, Nat.reduceLT, if_true, R.bind_ok, evC_none, evI_of, evE_glo, hg, R.of_some, itV]
  have := cprL_go (f := cprB T C (.bin .add (.var 3) (.tup [.var 4])) (.nm 4) none [4] [y0, y1, some (.fl (tNs ws)), some (.tup (strL w)), none]) (c := none) (d := L.length) (fun x => some (LV.tup (strL w ++ [x]))) (strL vs) acc (L ++ [.lst []]) (fun x hx acc' => by
    rw [set_last]
    have h5 : w.length + 1 ≤ 1000000 := by omega
    simp [cprB, wipeL, sget, binO, binV, addV, h5]) (by simp) (fun acc' => rfl) (by simp only [List.length_map] at hb; simpa using hb)
  simp only [set_last] at this
  rw [this]
  have : (strL vs).filterMap (fun x => some (LV.tup (strL w ++ [x]))) = vs.map fun v => LV.tup (strL w ++ [.str v]) := by
    simp [strL, Function.comp_def]
  rw [this]
def F_ways : Fn := ⟨2, 5, [.asg (.nm 2) (.frz (.lst [.call "state_rules" [.var 1] []])),
    .ite (.call "defers_values" [.var 0] []) [.asg (.nm 2) (.frz (.cpr2 (.bin .add (.var 3) (.tup [.var 4])) (.nm 3) (.of (.var 2)) none (.nm 4) (.of (.glo "VALUE_WAYS")) none [3, 4] [4]))] [],
    .ite (.call "buffers_stores" [.var 0] []) [.asg (.nm 2) (.frz (.cpr2 (.bin .add (.var 3) (.tup [.var 4])) (.nm 3) (.of (.var 2)) none (.nm 4) (.of (.glo "STORE_WAYS")) none [3, 4] [4]))] [],
    .ret (.var 2)]⟩
def S_ways (args : List LV) (L : LH) : R LV := match args with
  | [.ob "Policy" ["names"] [.tup ks], .bl d] => match unS ks with
    | some ps => .ok (.fl (tNs (waysB (defF ps) (bufF ps) d))) L
    | none => .stuck
  | _ => .stuck
@[simp] theorem S_ways_eq {ps : List String} {d : Bool} {L : LH} : S_ways [obN "Policy" ps, .bl d] L = .ok (.fl (tNs (waysB (defF ps) (bufF ps) d))) L := by simp [S_ways, obN]
theorem m_ways {T C} (h1 : C "state_rules" = S_state) (h2 : C "defers_values" = S_ask defF) (h3 : C "buffers_stores" = S_ask bufF) (hv : T.glob "VALUE_WAYS" = some (.tup (strL ["flush_values", "tell_values"]))) (hs : T.glob "STORE_WAYS" = some (.tup (strL ["drain_stores", "tell_stores"]))) : Meets (evF T C F_ways) S_ways := by
  intro args L r2 L2 hL ha h
  unfold S_ways at h
  split at h
  · rename_i ks d
    split at h
    · rename_i ps e1
      cases h
      have e1 := of_unS e1
      subst e1
      have go : SWp (evSs T C F_ways.body [some (obN "Policy" ps), some (.bl d), none, none, none] L) No No No fun v L' => v = .fl (tNs (waysB (defF ps) (bufF ps) d)) ∧ L' = L := by
        have sl := stateF_len d
        simp only [F_ways]
        refine SWp_cons ?_
        have e0 : evE T C (.frz (.lst [.call "state_rules" [.var 1] []])) [some (obN "Policy" ps), some (.bl d), none, none, none] L = .ok (.fl (tNs [stateF d])) L := by
          simp only [evE_frz, evE_lst, evE_call, evEs_cons, evEs_nil, evE_var, sget, List.getElem?_cons_succ, List.getElem?_cons_zero, R.of_some, R.bind_ok, h1, S_state, List.append_nil, List.length_cons, List.length_nil, big_val, Nat.reduceAdd, Nat.reduceLeDiff, if_true]
          exact fzV_lst (tNs_cl _ [stateF d])
        rw [evS_asg, e0]
        simp only [R.bind_ok, evG_nm, List.length_cons, List.length_nil, List.set_cons_succ, List.set_cons_zero, Nat.reduceAdd, Nat.reduceLT, if_true, R.toS_ok, SWp_nx]
        have fin : ∀ ws, SWp (evSs T C [.ret (.var 2)] [some (obN "Policy" ps), some (.bl d), some (.fl (tNs ws)), none, none] L) No No No fun v L' => v = .fl (tNs ws) ∧ L' = L := by
          intro ws
          refine SWp_cons ?_
          simp [sget]
        have sec : ∀ ws : List (List String), ws.length ≤ 100 → ws.all (fun w => decide (w.length ≤ 1000)) = true → SWp (evSs T C [.ite (.call "buffers_stores" [.var 0] []) [.asg (.nm 2) (.frz (.cpr2 (.bin .add (.var 3) (.tup [.var 4])) (.nm 3) (.of (.var 2)) none (.nm 4) (.of (.glo "STORE_WAYS")) none [3, 4] [4]))] [],
            .ret (.var 2)] [some (obN "Policy" ps), some (.bl d), some (.fl (tNs ws)), none, none] L) No No No fun v L' => v = .fl (tNs (if bufF ps then stepW ws ["drain_stores", "tell_stores"] else ws)) ∧ L' = L := by
          intro ws w1 w2
          refine SWp_cons ?_
          simp only [evS_ite', evE_call, evEs_cons, evEs_nil, evE_var, sget, List.getElem?_cons_zero, R.of_some, R.bind_ok, List.append_nil, h3, S_ask_eq, asB_bl, R.toS_ok]
          cases bufF ps with
          | false => simp only [Bool.false_eq_true, if_false, evSs_nil, SWp_nx]; exact fin ws
          | true =>
            simp only [if_true]
            refine SWp_cons ?_
            rw [evS_asg, ev_step rfl hs ⟨w1, by decide⟩ w2]
            simp only [R.bind_ok, evG_nm, List.length_cons, List.length_nil, List.set_cons_succ, List.set_cons_zero, Nat.reduceAdd, Nat.reduceLT, if_true, R.toS_ok, SWp_nx, evSs_nil]
            exact fin _
        refine SWp_cons ?_
        simp only [evS_ite', evE_call, evEs_cons, evEs_nil, evE_var, sget, List.getElem?_cons_zero, R.of_some, R.bind_ok, List.append_nil, h2, S_ask_eq, asB_bl, R.toS_ok]
        unfold waysB
        have w0 : [stateF d].all (fun w => decide (w.length ≤ 1000)) = true := by
          simp only [List.all_cons, List.all_nil, Bool.and_true, decide_eq_true_eq]
          omega
        cases defF ps with
        | false => simp only [Bool.false_eq_true, if_false, evSs_nil, SWp_nx]; exact sec _ (by simp) w0
        | true =>
          simp only [if_true]
          refine SWp_cons ?_
          rw [evS_asg, ev_step rfl hv ⟨by simp, by decide⟩ w0]
          simp only [R.bind_ok, evG_nm, List.length_cons, List.length_nil, List.set_cons_succ, List.set_cons_zero, Nat.reduceAdd, Nat.reduceLT, if_true, R.toS_ok, SWp_nx, evSs_nil]
          refine sec _ (by simp [stepW]) ?_
          simp only [stepW, List.flatMap_cons, List.flatMap_nil, List.map_cons, List.map_nil, List.append_nil, List.all_cons, List.all_nil, Bool.and_true, List.length_append, List.length_cons, List.length_nil, Bool.and_eq_true, decide_eq_true_eq]
          omega
      obtain ⟨v, L1, e, q1, q2⟩ := (RWp_evF (f := F_ways) (vs := [obN "Policy" ps, .bl d]) rfl (go.mono (fun _ _ h => h.elim) (fun _ _ h => h) (fun _ _ h => h) fun _ _ h => h)).ex
      subst q1 q2
      exact ⟨_, _, e, Sim.refl hL (by simp [clV]) (Nat.le_refl _)⟩
    · cases h
  · cases h
def F_leastc : Fn := ⟨2, 3, [.ret (.cpr (.frz (.new "Carry" [.var 2] [])) (.nm 2) (.of (.call "least_sets" [.call "whole_ways" [.var 0, .var 1] []] [])) none [2])]⟩
def obs (ws : List (List String)) : List LV := ws.map (obN "Carry")
theorem obs_cl (n : Nat) : ∀ ws : List (List String), clVs n (obs ws) = true
  | [] => rfl
  | a :: r => by
    have := obs_cl n r
    simp only [obs, List.map_cons, clVs, obN_cl, Bool.true_and] at this ⊢
    exact this
def S_leastc (args : List LV) (L : LH) : R LV := match args with
  | [.ob "Policy" ["names"] [.tup ks], .bl d] => match unS ks with
    | some ps => .ok (.ref L.length) (L ++ [.lst (obs (waysB (defF ps) (bufF ps) d))])
    | none => .stuck
  | _ => .stuck
@[simp] theorem S_leastc_eq {ps : List String} {d : Bool} {L : LH} : S_leastc [obN "Policy" ps, .bl d] L = .ok (.ref L.length) (L ++ [.lst (obs (waysB (defF ps) (bufF ps) d))]) := by simp [S_leastc, obN]
theorem m_leastc {T C} (h1 : C "least_sets" = S_least) (h2 : C "whole_ways" = S_ways) (hC : C "Carry.__init__" = S_init crules) : Meets (evF T C F_leastc) S_leastc := by
  intro args L r2 L2 hL ha h
  unfold S_leastc at h
  split at h
  · rename_i ks d
    split at h
    · rename_i ps e1
      cases h
      have e1 := of_unS e1
      subst e1
      obtain ⟨wl, _⟩ := ways_len (defF ps) (bufF ps) d
      have wg := ways_good (defF ps) (bufF ps) d
      have el := least_ways (defF ps) (bufF ps) d
      have e0 : ∀ ws : List (List String), (tNs ws).filterMap (fun x => match x with | .tup ys => (unS ys).map (obN "Carry") | _ => none) = obs ws := by
        intro ws
        induction ws with
        | nil => rfl
        | cons a r ih =>
          simp only [tNs, obs, List.map_cons, List.filterMap_cons, tN, unS_strL, Option.map_some] at ih ⊢
          rw [ih]
      have hl := S_least_eq (L := L) (ss := waysB (defF ps) (bufF ps) d) (by omega)
      rw [el] at hl
      have hw := S_ways_eq (ps := ps) (d := d) (L := L)
      generalize waysB (defF ps) (bufF ps) d = ws at hl wg wl hw
      have ec : evE T C (.cpr (.frz (.new "Carry" [.var 2] [])) (.nm 2) (.of (.call "least_sets" [.call "whole_ways" [.var 0, .var 1] []] [])) none [2]) [some (obN "Policy" ps), some (.bl d), none] L = .ok (.ref L.length) (L ++ [.lst (obs ws)]) := by
        rw [cpr_ok (c := none) (xs := tNs ws) (fun x => match x with | .tup ys => (unS ys).map (obN "Carry") | _ => none) (L1 := L) ?_ (fun x hx acc => ?_) (fun _ => rfl) (by simp; omega), e0]
        · simp only [evI_of, evE_call, evEs_cons, evEs_nil, evE_var, sget, List.getElem?_cons_succ, List.getElem?_cons_zero, R.of_some, R.bind_ok, List.append_nil, h2, hw, h1, hl, itV]
        · obtain ⟨w, hw, rfl⟩ := List.mem_map.mp hx
          obtain ⟨g1, g2⟩ := goodN_iff.mp (List.all_eq_true.mp wg w hw)
          have hn := frz_new (T := T) (C := C) (K := "Carry") (xs := [.var 2]) (s := [some (obN "Policy" ps), some (.bl d), some (tN w)]) (L := L ++ [.lst acc]) (v := tN w) (by simp [sget]) hC (namesOf_tup w) g1
          rw [g2] at hn
          simp only [cprB, wipeL, evG_nm, List.length_cons, List.length_nil, List.set_cons_succ, List.set_cons_zero, Nat.reduceAdd, Nat.reduceLT, if_true, R.bind_ok, evC_none, hn]
          simp only [tN, unS_strL, Option.map_some]
      have e' : evSs T C F_leastc.body [some (obN "Policy" ps), some (.bl d), none] L = .rt (.ref L.length) (L ++ [.lst (obs ws)]) := by
        simp only [F_leastc, evSs_cons, evS_ret, ec, R.toS_ok, SR.bind_rt]
      exact ⟨_, _, evF_rt rfl e', Sim.one (G := [.lst (obs ws)]) (o := .lst (obs ws)) hL (by simp) (Nat.le_refl _) (obs_cl _ _)⟩
    · cases h
  · cases h
end G
set_option Elab.async false
set_option linter.all false
set_option maxRecDepth 100000
set_option maxHeartbeats 4000000
/-! G24: Carry.empty, the difference of sets of rules, the laws' own least sets of carries. -/
namespace G
open PySem
theorem m_none {F : List LV → LH → R LV} : Meets F (fun _ _ => .stuck) := fun _ _ _ _ _ _ h => by cases h
def F_empty (K : String) : Fn := ⟨0, 0, [.ret (.frz (.new K [] [.tup []]))]⟩
def S_empty (K : String) (args : List LV) (L : LH) : R LV := match args with
  | [] => .ok (obN K []) L
  | _ => .stuck
theorem m_empty {T C} {K : String} {known : List String} (h0 : okN known [] = true) (hC : C (K ++ ".__init__") = S_init known) : Meets (evF T C (F_empty K)) (S_empty K) := by
  intro args L r2 L2 hL ha h
  unfold S_empty at h
  split at h
  · cases h
    have e : evSs T C (F_empty K).body [] L = .rt (obN K []) L := by
      have ho : ordF known [] = [] := by unfold ordF; rw [List.filter_eq_nil_iff]; simp
      have hS : S_init known [.ref L.length, .tup []] (L ++ [.ins K []]) = .ok .non (L ++ [mkO K []]) := by
        have := namesOf_tup []
        simp only [strL_nil] at this
        simp [S_init, this, h0, ho]
      simp only [F_empty, evSs_cons, evS_ret, evE_frz, evE_new, evEs_nil, R.bind_ok, List.nil_append, hC, hS, if_true]
      rw [mkO, fzV_ins (by simp [clFs, clV, clVs])]
      rfl
    exact ⟨_, _, evF_rt rfl e, Sim.refl hL (by simp) (Nat.le_refl _)⟩
  · cases h
def F_sub (K : String) : Fn := ⟨2, 3, [.ret (.frz (.new K [.frz (.cpr (.var 2) (.nm 2) (.of (.fld (.var 0) "names")) (some (.cmp .nin (.var 2) (.fld (.var 1) "names"))) [2])] []))]⟩
def S_sub (K : String) (known : List String) (args : List LV) (L : LH) : R LV := match args with
  | [.ob _ ["names"] [.tup xs], .ob _ ["names"] [.tup ys]] => match unS xs, unS ys with
    | some ns, some ms => if goodN known ns = true then .ok (obN K (ns.filter fun z => !ms.contains z)) L else .stuck
    | _, _ => .stuck
  | _ => .stuck
theorem S_sub_eq {K K1 K2 : String} {known ns ms : List String} {L : LH} (h : goodN known ns = true) : S_sub K known [obN K1 ns, obN K2 ms] L = .ok (obN K (ns.filter fun z => !ms.contains z)) L := by simp [S_sub, obN, h]
theorem m_sub {T C} {K : String} {known : List String} (hk : okN known known = true) (hC : C (K ++ ".__init__") = S_init known) : Meets (evF T C (F_sub K)) (S_sub K known) := by
  intro args L r2 L2 hL ha h
  unfold S_sub at h
  split at h
  · rename_i K1 xs K2 ys
    split at h
    · rename_i ns ms e1 e2
      split at h
      · rename_i hg
        cases h
        have e1 := of_unS e1
        have e2 := of_unS e2
        subst e1 e2
        have gf := filter_filter_good hk hg fun z => !ms.contains z
        have hl := okN_len (goodN_iff.mp hg).1
        have ec : evE T C (.frz (.cpr (.var 2) (.nm 2) (.of (.fld (.var 0) "names")) (some (.cmp .nin (.var 2) (.fld (.var 1) "names"))) [2])) [some (obN K1 ns), some (obN K2 ms), none] L = .ok (.fl (strL (ns.filter fun z => !ms.contains z))) L :=
          flt (fun z => !ms.contains z) (by simp) (by simp only [evI_of, evE_fld, evE_var, sget, List.getElem?_cons_zero, R.of_some, R.bind_ok, fld_obN, itV]) (fun z hz L' => by
            simp only [evE_cmp, evE_fld, evE_var, sget, List.set_cons_succ, List.set_cons_zero, List.getElem?_cons_succ, List.getElem?_cons_zero, R.of_some, R.bind_ok, fld_obN, cmpO_tup, nin_tup, Option.map_some]) (by simp; omega)
        have hn := frz_new (T := T) (C := C) (K := K) (xs := [.frz (.cpr (.var 2) (.nm 2) (.of (.fld (.var 0) "names")) (some (.cmp .nin (.var 2) (.fld (.var 1) "names"))) [2])]) (s := [some (obN K1 ns), some (obN K2 ms), none]) (L := L) (by rw [evEs_cons, ec, R.bind_ok, evEs_nil, R.bind_ok]) hC (namesOf_fl _) (goodN_iff.mp gf).1
        rw [(goodN_iff.mp gf).2] at hn
        have e : evSs T C (F_sub K).body [some (obN K1 ns), some (obN K2 ms), none] L = .rt (obN K (ns.filter fun z => !ms.contains z)) L := by
          simp only [F_sub, evSs_cons, evS_ret, hn, R.toS_ok, SR.bind_rt]
        exact ⟨_, _, evF_rt rfl e, Sim.refl hL (by simp) (Nat.le_refl _)⟩
      · cases h
    · cases h
  · cases h
/-! ### _law_sets -/
def F_lsets : Fn := ⟨1, 7, [.asg (.nm 1) (.lst []),
    .for (.nm 2) (.of (.var 0)) [.asg (.nm 4) (.frz (.cpr (.var 5) (.nm 5) (.of (.var 0)) (some (.and (.cmp .ne (.var 5) (.var 2)) (.cmp .eq (.blt "len" [.frz (.cpr (.var 6) (.nm 6) (.of (.var 5)) (some (.cmp .inn (.var 6) (.var 2))) [6])]) (.blt "len" [.var 5])))) [5])),
    .ite (.and (.cmp .eq (.blt "len" [.var 4]) (.con (.int 0))) (.cmp .nin (.var 2) (.var 1))) [.exp (.mth (.var 1) "append" [.var 2] [])] []],
    .asg (.nm 3) (.frz (.blt "sorted" [.frz (.cpr (.tup [.blt "len" [.var 2], .var 2]) (.nm 2) (.of (.var 1)) none [2])])),
    .ret (.frz (.cpr (.idx (.var 2) (.con (.int 1))) (.nm 2) (.of (.var 3)) none [2]))]⟩
def S_lsets (args : List LV) (L : LH) : R LV := match args with
  | [.ref j] => match L[j]? with
    | some (.lst xs) => match unT xs with
      | some ss => if ss.length < 900 ∧ ss.all (fun w => decide (w.length ≤ 1000)) = true then .ok (.fl (tNs (lsetsF ss))) L else .stuck
      | none => .stuck
    | _ => .stuck
  | _ => .stuck
theorem addL_len (ss k : List (List String)) (n : List String) : (addL ss k n).length ≤ k.length + 1 := by
  unfold addL; split <;> simp
theorem foldlL_len (ss : List (List String)) : ∀ (xs k : List (List String)), (xs.foldl (addL ss) k).length ≤ k.length + xs.length
  | [], k => by simp
  | x :: r, k => by
    rw [List.foldl_cons]
    have := foldlL_len ss r (addL ss k x)
    have := addL_len ss k x
    simp only [List.length_cons]
    omega
theorem fm_T (f : List String → Bool) {g : LV → Option LV} (hg : ∀ w, g (tN w) = if f w = true then some (tN w) else none) : ∀ ss : List (List String), (tNs ss).filterMap g = tNs (ss.filter f)
  | [] => rfl
  | a :: r => by
    have e1 : tNs (a :: r) = tN a :: tNs r := rfl
    rw [e1, List.filterMap_cons, hg, fm_T f hg r, List.filter_cons]
    cases f a <;> rfl
theorem len_tN {L : LH} (w : List String) : lenV [tN w] L = .ok (.int w.length) L := by simp [lenV, tN, seqAt]
theorem len_flS {L : LH} (w : List String) : lenV [.fl (strL w)] L = .ok (.int w.length) L := by simp [lenV, seqAt]
theorem len_flT {L : LH} (w : List (List String)) : lenV [.fl (tNs w)] L = .ok (.int w.length) L := by simp [lenV, seqAt]
theorem beq_nat (a b : Nat) : ((a : Int) == (b : Int)) = (a == b) := by
  rw [Bool.eq_iff_iff, beq_iff_eq, beq_iff_eq]
  omega
theorem m_lsets {T C} : Meets (evF T C F_lsets) S_lsets := by
  intro args L r2 L2 hL ha h
  unfold S_lsets at h
  split at h
  · rename_i j
    split at h
    · rename_i xs hj
      split at h
      · rename_i ss e1
        split at h
        · rename_i hl
          obtain ⟨hl, hw⟩ := hl
          cases h
          have e1 := of_unT e1
          subst e1
          have hjl : j < L.length := (List.getElem?_eq_some_iff.mp hj).1
          have go : SWp (evSs T C F_lsets.body [some (.ref j), none, none, none, none, none, none] L) No No No fun v L' => v = .fl (tNs (lsetsF ss)) ∧ L' = L ++ [.lst (tNs (ss.foldl (addL ss) []))] := by
            simp only [F_lsets]
            refine SWp_cons ?_
            simp only [evS_asg, evE_lst, evEs_nil, R.bind_ok, List.length_nil, big_val, Nat.zero_le, if_true, evG_nm, List.length_cons, List.set_cons_succ, List.set_cons_zero, Nat.reduceAdd, Nat.reduceLT, R.toS_ok, SWp_nx]
            refine SWp_cons ?_
            have hj1 : (L ++ [LO.lst []])[j]? = some (.lst (tNs ss)) := get_lt hj
            simp only [evS_for, evI_of, evE_var, sget, List.getElem?_cons_zero, R.of_some, R.bind_ok, itV, hj1, SWp_toS, RWp_ok]
            refine (forL_ix (fun i s L' => (∃ y2 y3 y4 y5 y6, s = [some (.ref j), some (.ref L.length), y2, y3, y4, y5, y6]) ∧ L' = L ++ [.lst (tNs ((ss.take i).foldl (addL ss) []))]) ?_ ?_ ⟨⟨_, _, _, _, _, rfl⟩, rfl⟩).mono ?_ (fun _ _ h => h) (fun _ _ h => h) (fun _ _ h => h)
            · rintro i s L' ⟨_, hL'⟩
              subst L'
              simp only [chkOk, decide_eq_true_eq]
              exact get_lt hj
            · rintro i x hx s L' ⟨⟨y2, y3, y4, y5, y6, rfl⟩, hL'⟩
              subst L'
              rw [tNs, List.getElem?_map] at hx
              obtain ⟨one, hn, rfl⟩ := Option.map_eq_some_iff.mp hx
              have ht : ss.take (i + 1) = ss.take i ++ [one] := by rw [List.take_add_one, hn]; rfl
              have hk : ((ss.take i).foldl (addL ss) []).length < 900 := by
                have h1 := foldlL_len ss (ss.take i) []
                have h2 : (ss.take i).length ≤ ss.length := by rw [List.length_take]; exact Nat.min_le_right _ _
                simp only [List.length_nil] at h1
                omega
              rw [ht, List.foldl_append]
              generalize (ss.take i).foldl (addL ss) [] = kept at hk
              refine SWp_body ?_
              simp only [evG_nm, List.length_cons, List.length_nil, List.set_cons_succ, List.set_cons_zero, Nat.reduceAdd, Nat.reduceLT, if_true, RWp_ok]
              refine SWp_cons ?_
              have hj2 : (L ++ [LO.lst (tNs kept)])[j]? = some (.lst (tNs ss)) := get_lt hj
              have ec : evE T C (.frz (.cpr (.var 5) (.nm 5) (.of (.var 0)) (some (.and (.cmp .ne (.var 5) (.var 2)) (.cmp .eq (.blt "len" [.frz (.cpr (.var 6) (.nm 6) (.of (.var 5)) (some (.cmp .inn (.var 6) (.var 2))) [6])]) (.blt "len" [.var 5])))) [5])) [some (.ref j), some (.ref L.length), some (tN one), y3, y4, y5, y6] (L ++ [.lst (tNs kept)]) =
                  .ok (.fl (tNs (ss.filter fun two => !(two == one) && (two.filter fun z => one.contains z).length == two.length))) (L ++ [.lst (tNs kept)]) := by
                have e0 := fm_T (fun two => !(two == one) && (two.filter fun z => one.contains z).length == two.length) (g := fun x => match x with | .tup ys => (unS ys).bind fun two => if (!(two == one) && (two.filter fun z => one.contains z).length == two.length) = true then some (.tup ys) else none | _ => none) (fun w => by simp only [tN, unS_strL, Option.bind_some]) ss
                rw [frz_cpr' (c := some (j, tNs ss)) (xs := tNs ss) (fun x => match x with | .tup ys => (unS ys).bind fun two => if (!(two == one) && (two.filter fun z => one.contains z).length == two.length) = true then some (.tup ys) else none | _ => none) (by simp only [evI_of, evE_var, sget, List.getElem?_cons_zero, R.of_some, R.bind_ok, itV, hj2]) (fun x hx acc => ?_) (fun acc => by simp only [chkOk, decide_eq_true_eq]; exact get_lt hj2) (by simp; omega) (by rw [e0]; exact tNs_cl _ _), e0]
                obtain ⟨two, h2, rfl⟩ := List.mem_map.mp hx
                have hw2 : two.length ≤ 1000 := of_decide_eq_true (List.all_eq_true.mp hw two h2)
                generalize (L ++ [LO.lst (tNs kept)]) ++ [LO.lst acc] = L9
                have ei := flt (T := T) (C := C) (L := L9) (i := 6) (src := .of (.var 5)) (cond := .cmp .inn (.var 6) (.var 2)) (s := [some (.ref j), some (.ref L.length), some (tN one), y3, y4, some (tN two), y6]) (ns := two) (fun z => one.contains z) (by simp) (by simp only [evI_of, evE_var, sget, List.getElem?_cons_succ, List.getElem?_cons_zero, R.of_some, R.bind_ok, tN, itV]) (fun z hz L' => by
                  simp only [evE_cmp, evE_var, sget, List.set_cons_succ, List.set_cons_zero, List.getElem?_cons_succ, List.getElem?_cons_zero, R.of_some, R.bind_ok, tN, cmpO_tup, inn_tup, Option.map_some]) (by simp; omega)
                have en : ∀ L, cmpO C .ne (tN two) (tN one) L = .ok (.bl (!(two == one))) L := fun L => by
                  rw [show cmpO C .ne (tN two) (tN one) L = .of ((cmpV .ne (tN two) (tN one) L).map .bl) L from rfl, ne_tN]; rfl
                simp only [cprB, wipeL, evG_nm, List.length_cons, List.length_nil, List.set_cons_succ, List.set_cons_zero, Nat.reduceAdd, Nat.reduceLT, if_true, R.bind_ok, evC_some, evE_and, evE_cmp, evE_var, sget, List.getElem?_cons_succ, List.getElem?_cons_zero, R.of_some, en, asB_bl, evE_blt, evEs_cons, evEs_nil, ei, bltV, len_flS, len_tN, cmpO_int, eq_int, Option.map_some, beq_nat]
                simp only [tN, unS_strL, Option.bind_some]
                cases (two == one) <;> cases ((two.filter fun z => one.contains z).length == two.length) <;> simp
              rw [evS_asg, ec]
              simp only [R.bind_ok, evG_nm, List.length_cons, List.length_nil, List.set_cons_succ, List.set_cons_zero, Nat.reduceAdd, Nat.reduceLT, if_true, R.toS_ok, SWp_nx]
              simp only [List.foldl_cons, List.foldl_nil, addL]
              generalize (ss.filter fun two => !(two == one) && (two.filter fun z => one.contains z).length == two.length) = sm
              refine SWp_cons ?_
              have hk2 : cmpO C .nin (tN one) (.ref L.length) (L ++ [.lst (tNs kept)]) = .ok (.bl (!kept.contains one)) (L ++ [.lst (tNs kept)]) := by
                rw [cmpO_ref, nin_tNs (ss := kept) (by simp [seqAt]) (.inl (by rw [toD, get_last]; simp only [toDs_tNs]; rfl))]
                rfl
              have hz : ((sm.length : Int) == 0) = (sm.length == 0) := beq_nat _ 0
              simp only [evS_ite', evE_and, evE_cmp, evE_blt, evEs_cons, evEs_nil, evE_var, evE_con, sget, List.getElem?_cons_succ, List.getElem?_cons_zero, R.of_some, R.bind_ok, bltV, len_flT, cmpO_int, eq_int, Option.map_some, asB_bl, hz, hk2]
              cases (sm.length == 0) <;> cases kept.contains one <;> simp only [Bool.not_true, Bool.not_false, Bool.and_true, Bool.and_false, Bool.true_and, Bool.false_and, Bool.false_eq_true, if_true, if_false, R.bind_ok, asB_bl, R.toS_ok, SWp_toS, RWp_ok, evSs_nil, SWp_nx] <;> first | exact ⟨⟨_, _, _, _, _, rfl⟩, by trivial⟩ | skip
              refine SWp_cons ?_
              simp only [evS_exp, evE_mth, evE_var, evEs_cons, evEs_nil, sget, List.getElem?_cons_succ, List.getElem?_cons_zero, R.of_some, R.bind_ok, mthV_last, app_lst (show (tNs kept).length < 1000 by simp; omega), R.toS_ok, SWp_nx, evSs_nil]
              exact ⟨⟨_, _, _, _, _, rfl⟩, by rw [tNs_app]; rfl⟩
            · rintro s L' ⟨⟨y2, y3, y4, y5, y6, rfl⟩, hL'⟩
              subst L'
              rw [tNs_len, List.take_length]
              unfold lsetsF
              have hk : (ss.foldl (addL ss) []).length < 900 := by
                have h1 := foldlL_len ss ss []
                simp only [List.length_nil] at h1
                omega
              generalize ss.foldl (addL ss) [] = kept at hk
              refine SWp_cons ?_
              have ep := ev_pairs (T := T) (C := C) (s := [some (.ref j), some (.ref L.length), y2, y3, y4, y5, y6]) (L := L ++ [.lst (tNs kept)]) (src := .of (.var 1)) (i := 2) (ss := kept) (c := some (L.length, tNs kept)) (by simp) (by simp only [evI_of, evE_var, sget, List.getElem?_cons_succ, List.getElem?_cons_zero, R.of_some, R.bind_ok, itV, get_last]) (fun _ => by simp [chkOk]) (by omega)
              have hs := sorted_pr (L := L ++ [LO.lst (tNs kept)]) (ss := kept) (by omega)
              have hf : fzV (L ++ [LO.lst (tNs kept)]) (.ref (L ++ [LO.lst (tNs kept)]).length) ((L ++ [LO.lst (tNs kept)]) ++ [LO.lst ((srtS kept).map pvN)]) = .ok (.fl ((srtS kept).map pvN)) (L ++ [LO.lst (tNs kept)]) := fzV_lst (pr_cl _ _)
              rw [evS_asg, evE_frz, evE_blt, evEs_cons, ep, R.bind_ok, evEs_nil, R.bind_ok, R.bind_ok]
              simp only [bltV]
              rw [hs, R.bind_ok, hf]
              simp only [R.bind_ok, evG_nm, List.length_cons, List.length_nil, List.set_cons_succ, List.set_cons_zero, Nat.reduceAdd, Nat.reduceLT, if_true, R.toS_ok, SWp_nx]
              refine SWp_cons ?_
              have hsl : (srtS kept).length < 900 := by rw [srt_len]; omega
              generalize srtS kept = so at hsl
              have e0 : ∀ so : List (List String), (so.map pvN).filterMap (fun x => match x with | .tup [_, y] => some y | _ => none) = tNs so := by
                intro so
                induction so with
                | nil => rfl
                | cons a r ih =>
                  simp only [List.map_cons, List.filterMap_cons, pvN] at ih ⊢
                  rw [ih]
                  rfl
              rw [evS_ret, frz_cpr (xs := so.map pvN) (fun x => match x with | .tup [_, y] => some y | _ => none) (by simp only [evI_of, evE_var, sget, List.getElem?_cons_succ, List.getElem?_cons_zero, R.of_some, R.bind_ok, itV]) (fun x hx L9 => ?_) (by simp; omega) (by rw [e0]; exact tNs_cl _ _), e0]
              · simp only [R.toS_ok, SWp_rt]
                exact ⟨by trivial, by trivial⟩
              · obtain ⟨w, _, rfl⟩ := List.mem_map.mp hx
                simp only [cprB, wipeL, evG_nm, List.length_cons, List.length_nil, List.set_cons_succ, List.set_cons_zero, Nat.reduceAdd, Nat.reduceLT, if_true, R.bind_ok, evC_none, evE_idx, evE_var, evE_con, sget, List.getElem?_cons_succ, List.getElem?_cons_zero, R.of_some, pvN]
                rfl
          obtain ⟨v, L1, e, q1, q2⟩ := (RWp_evF (f := F_lsets) (vs := [.ref j]) rfl (go.mono (fun _ _ h => h.elim) (fun _ _ h => h) (fun _ _ h => h) fun _ _ h => h)).ex
          subst q1 q2
          exact ⟨_, _, e, Sim.drop hL (by simp [clV])⟩
        · cases h
      · cases h
    · cases h
  · cases h
end G
set_option Elab.async false
set_option linter.all false
set_option maxRecDepth 100000
set_option maxHeartbeats 4000000
/-! G25: the laws' own least carries; a carry that is handed. -/
namespace G
open PySem
def F_lleast : Fn := ⟨2, 9, [.asg (.nm 2) (.frz (.cpr (.var 7) (.nm 7) (.of (.frz (.slc (.call "_law_carry_rules" [] []) none (some (.con (.int 13)))))) (some (.or (.var 1) (.cmp .ne (.var 7) (.con (.str "written"))))) [7])),
    .asg (.nm 3) (.frz (.slc (.call "_law_carry_rules" [] []) (some (.con (.int 13))) (some (.con (.int 17))))),
    .asg (.nm 4) (.lst []),
    .for (.nm 5) (.rng [.con (.int 16)]) [.asg (.nm 6) (.frz (.cpr (.idx (.var 3) (.var 8)) (.nm 8) (.rng [.con (.int 4)]) (some (.cmp .eq (.bin .mod (.blt "int" [.bin .fdv (.var 5) (.idx (.frz (.lst [.con (.int 1), .con (.int 2), .con (.int 4), .con (.int 8)])) (.var 8))]) (.con (.int 2))) (.con (.int 1)))) [8])),
    .ite (.cmp .eq (.blt "len" [.call "_law_missing" [.frz (.bin .add (.var 2) (.var 6)), .var 0, .var 1] []]) (.con (.int 0))) [.exp (.mth (.var 4) "append" [.blt "tuple" [.frz (.bin .add (.var 2) (.var 6))]] [])] []],
    .ret (.call "_law_sets" [.var 4] [])]⟩
def S_lleast (args : List LV) (L : LH) : R LV := match args with
  | [.fl xs, .bl d] => match unS xs with
    | some ps => .ok (.fl (tNs (waysB (defF ps) (bufF ps) d))) L
    | none => .stuck
  | _ => .stuck
@[simp] theorem S_lleast_eq {ps : List String} {d : Bool} {L : LH} : S_lleast [.fl (strL ps), .bl d] L = .ok (.fl (tNs (waysB (defF ps) (bufF ps) d))) L := by simp [S_lleast]
theorem choF_len (k : Nat) : (choF k).length ≤ 4 := Nat.le_trans (List.length_filter_le _ _) (by decide)
theorem nd_ways : lways.Nodup := by decide +kernel
/-- list + list of names, frozen -/
theorem add_fz {C : Orc} {L : LH} (a b : List String) (h : a.length + b.length ≤ 1000) : (binO C .add (.fl (strL a)) (.fl (strL b)) L).bind (fun v L1 => fzV L v L1) = .ok (.fl (strL (a ++ b))) L := by
  have h' : a.length + b.length ≤ big := by simp only [big_val]; omega
  have e : binO C .add (.fl (strL a)) (.fl (strL b)) L = .ok (.ref L.length) (L ++ [.lst (strL (a ++ b))]) := by
    simp only [binO_fl, binV, addV, lstAt, strL_len, h', if_true, strL_app]
  rw [e, R.bind_ok, fz_strs]
def wholeP (a b d : Bool) (k : Nat) : Bool := (missB a b (stateF d ++ choF k) d).length == 0
def wholeT (a b d : Bool) (n : Nat) : List (List String) := ((List.range n).filter (wholeP a b d)).map fun k => stateF d ++ choF k
theorem wholeT_succ (a b d : Bool) (n : Nat) : wholeT a b d (n + 1) = if wholeP a b d n = true then wholeT a b d n ++ [stateF d ++ choF n] else wholeT a b d n := by
  unfold wholeT
  rw [List.range_succ, List.filter_append, List.map_append]
  cases h : wholeP a b d n <;> simp [h]
theorem wholeT_len (a b d : Bool) (n : Nat) : (wholeT a b d n).length ≤ n := by
  unfold wholeT
  rw [List.length_map]
  exact Nat.le_trans (List.length_filter_le _ _) (by simp)
theorem m_lleast {T C} (h1 : C "_law_carry_rules" = S_list crules) (h2 : C "_law_missing" = S_lmiss) (h3 : C "_law_sets" = S_lsets) : Meets (evF T C F_lleast) S_lleast := by
  intro args L r2 L2 hL ha h
  unfold S_lleast at h
  split at h
  · rename_i xs d
    split at h
    · rename_i ps e1
      cases h
      have e1 := of_unS e1
      subst e1
      have sl := stateF_len d
      have go : SWp (evSs T C F_lleast.body [some (.fl (strL ps)), some (.bl d), none, none, none, none, none, none, none] L) No No No fun v L' => v = .fl (tNs (waysB (defF ps) (bufF ps) d)) ∧ ∃ G, L' = L ++ G := by
        simp only [F_lleast]
        refine SWp_cons ?_
        have hf : ∀ L : LH, fzV L (.ref L.length) (L ++ [.lst (strL srules)]) = .ok (.fl (strL srules)) L := fun L => fzV_lst (by simp)
        have h13 : cutL crules none (some 13) = srules := by decide +kernel
        have ec := flt (T := T) (C := C) (L := L) (i := 7) (src := .of (.frz (.slc (.call "_law_carry_rules" [] []) none (some (.con (.int 13)))))) (cond := .or (.var 1) (.cmp .ne (.var 7) (.con (.str "written")))) (s := [some (.fl (strL ps)), some (.bl d), none, none, none, none, none, none, none]) (ns := srules)
          (fun z => d || !(z == "written")) (by simp) (by simp only [evI_of, evE_frz, evE_slc, evE_call, evEs_nil, R.bind_ok, h1, S_list_eq, List.append_nil, evO_none, evO_some, evE_con, slcV_fl, cut_strL, h13, hf, itV]) (fun z hz L' => by
            simp only [evE_or, evE_cmp, evE_con, evE_var, sget, List.set_cons_succ, List.set_cons_zero, List.getElem?_cons_succ, List.getElem?_cons_zero, R.of_some, R.bind_ok, cmpO_str, ne_str, Option.map_some, asB_bl]
            cases d <;> cases (z == "written") <;> rfl) (by decide)
        have es : srules.filter (fun z => d || !(z == "written")) = stateF d := rfl
        rw [es] at ec
        rw [evS_asg, ec]
        simp only [R.bind_ok, evG_nm, List.length_cons, List.length_nil, List.set_cons_succ, List.set_cons_zero, Nat.reduceAdd, Nat.reduceLT, if_true, R.toS_ok, SWp_nx]
        refine SWp_cons ?_
        have h17 : cutL crules (some 13) (some 17) = lways := by decide +kernel
        simp only [evS_asg, evE_frz, evE_slc, evE_call, evEs_nil, R.bind_ok, h1, S_list_eq, List.append_nil, evO_some, evE_con, slcV_fl, cut_strL, h17, fz_strs, evG_nm, List.length_cons, List.length_nil, List.set_cons_succ, List.set_cons_zero, Nat.reduceAdd, Nat.reduceLT, if_true, R.toS_ok, SWp_nx]
        refine SWp_cons ?_
        simp only [evS_asg, evE_lst, evEs_nil, R.bind_ok, List.length_nil, big_val, Nat.zero_le, if_true, evG_nm, List.length_cons, List.set_cons_succ, List.set_cons_zero, Nat.reduceAdd, Nat.reduceLT, R.toS_ok, SWp_nx]
        refine SWp_cons ?_
        have hrg := fun L' => rng_ok (n := 16) (L' := L') (by decide)
        simp only [Int.cast_ofNat_Int] at hrg
        simp only [evS_for, evI_rng, evEs_cons, evEs_nil, evE_con, R.bind_ok, hrg, SWp_toS, RWp_ok]
        refine (forL_ix (fun i s L' => (∃ y5 y6 y7 y8, s = [some (.fl (strL ps)), some (.bl d), some (.fl (strL (stateF d))), some (.fl (strL lways)), some (.ref L.length), y5, y6, y7, y8]) ∧ L' = L ++ [.lst (tNs (wholeT (defF ps) (bufF ps) d i))]) (fun _ _ _ _ => rfl) ?_ ⟨⟨_, _, _, _, rfl⟩, rfl⟩).mono ?_ (fun _ _ h => h) (fun _ _ h => h) (fun _ _ h => h)
        · rintro i x hx s L' ⟨⟨y5, y6, y7, y8, rfl⟩, hL'⟩
          subst L'
          rw [List.getElem?_map] at hx
          obtain ⟨q, hq, rfl⟩ := Option.map_eq_some_iff.mp hx
          have hq' : q = i ∧ i < 16 := by
            obtain ⟨hi, hv⟩ := List.getElem?_eq_some_iff.mp hq
            rw [List.getElem_range] at hv
            exact ⟨hv.symm, by simpa using hi⟩
          obtain ⟨rfl, hq16⟩ := hq'
          have wl := wholeT_len (defF ps) (bufF ps) d q
          have ws := wholeT_succ (defF ps) (bufF ps) d q
          rw [ws]
          generalize wholeT (defF ps) (bufF ps) d q = wh at wl
          refine SWp_body ?_
          simp only [evG_nm, List.length_cons, List.length_nil, List.set_cons_succ, List.set_cons_zero, Nat.reduceAdd, Nat.reduceLT, if_true, RWp_ok]
          refine SWp_cons ?_
          have h4 : ∀ L : LH, fzV L (.ref L.length) (L ++ [.lst [.int 1, .int 2, .int 4, .int 8]]) = .ok (.fl [.int 1, .int 2, .int 4, .int 8]) L := fun L => fzV_lst (by simp [clVs, clV])
          have hr4 := fun L' => rng_ok (n := 4) (L' := L') (by decide)
          simp only [Int.cast_ofNat_Int] at hr4
          have ec := frz_rules (T := T) (C := C) (L := L ++ [LO.lst (tNs wh)]) (elt := .idx (.var 3) (.var 8)) (tg := .nm 8) (src := .rng [.con (.int 4)]) (cond := some (.cmp .eq (.bin .mod (.blt "int" [.bin .fdv (.var 5) (.idx (.frz (.lst [.con (.int 1), .con (.int 2), .con (.int 4), .con (.int 8)])) (.var 8))]) (.con (.int 2))) (.con (.int 1)))) (own := [8])
            (s := [some (.fl (strL ps)), some (.bl d), some (.fl (strL (stateF d))), some (.fl (strL lways)), some (.ref L.length), some (.int (0 + q)), y6, y7, y8]) (known := lways) nd_ways (by decide) (fun j => decide ((((q : Nat) : Int) / [1, 2, 4, 8].getD j 1) % 2 = 1)) (by simp only [evI_rng, evEs_cons, evEs_nil, evE_con, R.bind_ok, hr4]; rfl) (fun k hk L9 => by
              have hk4 : k < 4 := hk
              have hk2 := idx_strL (L := L9) hk
              have hk0 : (0 : Int) + (q : Int) = q := by omega
              have i4 : idxV (.fl [.int 1, .int 2, .int 4, .int 8]) (.int k) L9 = some (.int ([1, 2, 4, 8].getD k 1)) ∧ (0 : Int) < [1, 2, 4, 8].getD k 1 ∧ ([1, 2, 4, 8].getD k 1 : Int) < 1073741824 := by
                have : k = 0 ∨ k = 1 ∨ k = 2 ∨ k = 3 := by omega
                rcases this with rfl | rfl | rfl | rfl <;> exact ⟨rfl, by decide, by decide⟩
              obtain ⟨i4, i5, i6⟩ := i4
              generalize ([1, 2, 4, 8].getD k 1 : Int) = dv at i4 i5 i6
              simp only [cprB, wipeL, evG_nm, List.length_cons, List.length_nil, List.set_cons_succ, List.set_cons_zero, Nat.reduceAdd, Nat.reduceLT, if_true, R.bind_ok, evC_some, evE_cmp, evE_bin, evE_blt, evE_idx, evE_frz, evE_lst, evEs_cons, evEs_nil, evE_var, evE_con, sget, List.getElem?_cons_succ, List.getElem?_cons_zero, R.of_some, big_val, Nat.reduceLeDiff, h4, i4, binO_int, binV, i5, i6, and_self, bltV, intV, Int.reduceLT, cmpO_int, eq_int, Option.map_some, asB_bl, hk0, hk2]
              have hb : (((q : Int) / dv % 2) == 1) = decide ((q : Int) / dv % 2 = 1) := by rw [Bool.eq_iff_iff]; simp
              rw [hb]
              rw [List.getElem?_eq_getElem hk]
              cases decide ((q : Int) / dv % 2 = 1) <;> rfl)
          have ecf : lways.filter (fun z => decide ((((q : Nat) : Int) / [1, 2, 4, 8].getD (lways.idxOf z) 1) % 2 = 1)) = choF q := rfl
          rw [ecf] at ec
          rw [evS_asg, ec]
          simp only [R.bind_ok, evG_nm, List.length_cons, List.length_nil, List.set_cons_succ, List.set_cons_zero, Nat.reduceAdd, Nat.reduceLT, if_true, R.toS_ok, SWp_nx]
          have cl := choF_len q
          have ea := fun L9 => add_fz (C := C) (L := L9) (stateF d) (choF q) (by omega)
          have hm : missF (stateF d ++ choF q) ps d = missB (defF ps) (bufF ps) (stateF d ++ choF q) d := rfl
          refine SWp_cons ?_
          simp only [evS_ite', evE_cmp, evE_blt, evE_call, evE_frz, evE_bin, evEs_cons, evEs_nil, evE_var, evE_con, sget, List.getElem?_cons_succ, List.getElem?_cons_zero, R.of_some, R.bind_ok, ea, List.append_nil, h2, S_lmiss_eq, hm, bltV, len_flS, cmpO_int, eq_int, Option.map_some, asB_bl, R.toS_ok]
          rw [show ((((missB (defF ps) (bufF ps) (stateF d ++ choF q) d).length : Nat) : Int) == 0) = wholeP (defF ps) (bufF ps) d q from beq_nat _ 0]
          cases wholeP (defF ps) (bufF ps) d q with
          | false =>
            simp only [Bool.false_eq_true, if_false, evSs_nil, SWp_nx]
            exact ⟨⟨_, _, _, _, rfl⟩, by trivial⟩
          | true =>
            simp only [if_true]
            refine SWp_cons ?_
            have et : ∀ L9 : LH, tupV [.fl (strL (stateF d ++ choF q))] L9 = .ok (tN (stateF d ++ choF q)) L9 := fun L9 => by
              simp only [tupV, seqAt, strL_len, List.length_append, tN]
              try rw [if_pos (by simp only [big_val]; omega)]
            simp only [evS_exp, evE_mth, evE_var, evE_blt, evE_frz, evE_bin, evEs_cons, evEs_nil, sget, List.getElem?_cons_succ, List.getElem?_cons_zero, R.of_some, R.bind_ok, mthV_last, ea, bltV, et, app_lst (show (tNs wh).length < 1000 by simp; omega), R.toS_ok, SWp_nx, evSs_nil]
            exact ⟨⟨_, _, _, _, rfl⟩, by rw [tNs_app]; rfl⟩
        · rintro s L' ⟨⟨y5, y6, y7, y8, rfl⟩, hL'⟩
          subst L'
          refine SWp_cons ?_
          have ew : wholeT (defF ps) (bufF ps) d ((List.range 16).map fun (k : Nat) => LV.int (0 + k)).length = wholeB (defF ps) (bufF ps) d := rfl
          rw [ew]
          have hS : S_lsets [.ref L.length] (L ++ [.lst (tNs (wholeB (defF ps) (bufF ps) d))]) = .ok (.fl (tNs (waysB (defF ps) (bufF ps) d))) (L ++ [.lst (tNs (wholeB (defF ps) (bufF ps) d))]) := by
            have q1 : ∀ a b d, (wholeB a b d).length < 900 ∧ (wholeB a b d).all (fun w => decide (w.length ≤ 1000)) = true := by decide +kernel
            simp only [S_lsets, get_last, unT_tNs]
            rw [if_pos (q1 _ _ _), lsets_whole]
          simp only [evS_ret, evE_call, evEs_cons, evEs_nil, evE_var, sget, List.getElem?_cons_succ, List.getElem?_cons_zero, R.of_some, R.bind_ok, List.append_nil, h3, hS, R.toS_ok, SWp_rt]
          exact ⟨by trivial, _, rfl⟩
      obtain ⟨v, L1, e, q1, G, q2⟩ := (RWp_evF (f := F_lleast) (vs := [.fl (strL ps), .bl d]) rfl (go.mono (fun _ _ h => h.elim) (fun _ _ h => h) (fun _ _ h => h) fun _ _ h => h)).ex
      subst q1 q2
      exact ⟨_, _, e, Sim.drop hL (by simp [clV])⟩
    · cases h
  · cases h
end G
set_option Elab.async false
set_option linter.all false
set_option maxRecDepth 100000
set_option maxHeartbeats 4000000
/-! G26: least_sets of any list, its answer on the heap. -/
namespace G
open PySem
def S_leastR (args : List LV) (L : LH) : R LV := match args with
  | [v] => match lstAt L v with
    | some xs => match unT xs with
      | some ss => if ss.length < 900 then .ok (.ref L.length) (L ++ [.lst (tNs (leastF ss))]) else .stuck
      | none => .stuck
    | none => .stuck
  | _ => .stuck
theorem itV_lst {v : LV} {L : LH} {xs : List LV} (h : lstAt L v = some xs) : ∃ c, (∀ G, itV v (L ++ G) = .ok (xs, c) (L ++ G)) ∧ ∀ G, chkOk c (L ++ G) = true := by
  cases v with
  | fl ys => cases h; exact ⟨none, fun _ => rfl, fun _ => rfl⟩
  | ref j =>
    simp only [lstAt] at h
    split at h
    · rename_i hj
      cases h
      exact ⟨some (j, xs), fun G => by simp only [itV, get_lt hj], fun G => by simp only [chkOk, get_lt hj, decide_true]⟩
    · cases h
  | _ => cases h
theorem m_leastR {T C} (hC : C "holds_set" = S_holds) : Meets (evF T C F_least) S_leastR := by
  intro args L r2 L2 hL ha h
  unfold S_leastR at h
  split at h
  · rename_i v
    split at h
    · rename_i xs hv
      split at h
      · rename_i ss e1
        split at h
        · rename_i hl
          cases h
          have e1 := of_unT e1
          subst e1
          obtain ⟨c, hc1, hc2⟩ := itV_lst hv
          replace hc1 := hc1
          have go : SWp (evSs T C F_least.body [some v, none, none, none, none, none] L) No No No fun v L' => v = .ref L.length ∧ L' = L ++ [.lst (tNs (leastF ss))] := by
            simp only [F_least]
            refine SWp_cons ?_
            simp only [evS_asg, evE_lst, evEs_nil, R.bind_ok, List.length_nil, big_val, Nat.zero_le, if_true, evG_nm, List.length_cons, List.set_cons_succ, List.set_cons_zero, Nat.reduceAdd, Nat.reduceLT, R.toS_ok, SWp_nx]
            refine SWp_cons ?_
            have ep := ev_pairs (T := T) (C := C) (s := [some v, some (.ref L.length), none, none, none, none]) (L := L ++ [.lst []]) (src := .of (.var 0)) (i := 4) (ss := ss) (c := c) (by simp) (by simp only [evI_of, evE_var, sget, List.getElem?_cons_zero, R.of_some, R.bind_ok]; exact hc1 _) (fun acc => by rw [List.append_assoc]; exact hc2 _) (by omega)
            have hs := sorted_pr (L := L ++ [.lst []]) (ss := ss) (by omega)
            have hf : fzV (L ++ [LO.lst []]) (.ref (L ++ [LO.lst []]).length) ((L ++ [LO.lst []]) ++ [LO.lst ((srtS ss).map pvN)]) = .ok (.fl ((srtS ss).map pvN)) (L ++ [LO.lst []]) := fzV_lst (pr_cl _ _)
            rw [evS_for, evI_of, evE_frz, evE_blt, evEs_cons, ep, R.bind_ok, evEs_nil, R.bind_ok, R.bind_ok]
            simp only [bltV]
            rw [hs, R.bind_ok, hf, R.bind_ok]
            simp only [itV, SWp_toS, RWp_ok]
            refine (forL_ix (fun j s L' => (∃ y2 y3 y4 y5, s = [some v, some (.ref L.length), y2, y3, y4, y5]) ∧ L' = L ++ [.lst (tNs (((srtS ss).take j).foldl addF []))]) (fun _ _ _ _ => rfl) ?_ ⟨⟨_, _, _, _, rfl⟩, rfl⟩).mono ?_ (fun _ _ h => h) (fun _ _ h => h) (fun _ _ h => h)
            · rintro i x hx s L' ⟨⟨y2, y3, y4, y5, rfl⟩, hL'⟩
              subst L'
              rw [List.getElem?_map] at hx
              obtain ⟨ns, hn, rfl⟩ := Option.map_eq_some_iff.mp hx
              have ht : (srtS ss).take (i + 1) = (srtS ss).take i ++ [ns] := by rw [List.take_add_one, hn]; rfl
              have hk : (((srtS ss).take i).foldl addF []).length < 900 := by
                have h1 := foldl_len ((srtS ss).take i) []
                have h2 : ((srtS ss).take i).length ≤ (srtS ss).length := by rw [List.length_take]; exact Nat.min_le_right _ _
                rw [srt_len] at h2
                simp only [List.length_nil] at h1
                omega
              rw [ht, List.foldl_append]
              generalize ((srtS ss).take i).foldl addF [] = kept at hk
              refine SWp_body ?_
              simp only [pvN, evG_tup, evGs_cons, evGs_nil, evG_nm, List.length_cons, List.length_nil, List.set_cons_succ, List.set_cons_zero, Nat.reduceAdd, Nat.reduceLT, if_true, R.bind_ok, RWp_ok]
              refine SWp_cons ?_
              have eb : evE T C (.frz (.cpr (.call "holds_set" [.var 3, .var 5] []) (.nm 5) (.of (.var 1)) none [5])) [some v, some (.ref L.length), some (.int ns.length), some (tN ns), y4, y5] (L ++ [.lst (tNs kept)]) = .ok (.fl ((kept.map fun less => less.all fun z => ns.contains z).map .bl)) (L ++ [.lst (tNs kept)]) := by
                have e0 : ∀ kept : List (List String), (tNs kept).filterMap (fun x => match x with | .tup ys => (unS ys).map fun less => LV.bl (less.all fun z => ns.contains z) | _ => none) = (kept.map fun less => less.all fun z => ns.contains z).map .bl := by
                  intro kept
                  induction kept with
                  | nil => rfl
                  | cons a r ih =>
                    simp only [tNs, List.map_cons, List.filterMap_cons, tN, unS_strL, Option.map_some] at ih ⊢
                    rw [ih]
                rw [frz_cpr' (c := some (L.length, tNs kept)) (xs := tNs kept) (fun x => match x with | .tup ys => (unS ys).map fun less => LV.bl (less.all fun z => ns.contains z) | _ => none) (by simp [sget, itV, lstAt, seqAt]) (fun x hx acc => ?_) (fun acc => by simp [chkOk]) (by simp; omega) (by rw [e0]; exact bls_cl _ _), e0]
                obtain ⟨a, _, rfl⟩ := List.mem_map.mp hx
                simp only [cprB, wipeL, evG_nm, List.length_cons, List.length_nil, List.set_cons_succ, List.set_cons_zero, Nat.reduceAdd, Nat.reduceLT, if_true, R.bind_ok, evC_none, evE_call, evEs_cons, evEs_nil, evE_var, sget, List.getElem?_cons_succ, List.getElem?_cons_zero, R.of_some, List.append_nil, hC, S_holds_eq]
                simp only [tN, unS_strL, Option.map_some]
              rw [evS_ite', evE_not, evE_blt, evEs_cons, eb, R.bind_ok, evEs_nil, R.bind_ok, R.bind_ok]
              simp only [bltV, anyV, lstAt, Option.bind_some, bools_map, Option.map_some, R.of_some, R.bind_ok, asB_bl, R.toS_ok, List.any_map, SWp_toS, RWp_ok]
              have ea : (kept.any (id ∘ fun less => less.all fun z => ns.contains z)) = kept.any fun less => less.all fun z => ns.contains z := rfl
              rw [ea]
              simp only [List.foldl_cons, List.foldl_nil, addF]
              cases hq : (kept.any fun less => less.all fun z => ns.contains z) with
              | true =>
                simp only [Bool.not_true, Bool.false_eq_true, if_false, if_true, evSs_nil, SWp_nx]
                exact ⟨⟨_, _, _, _, rfl⟩, by trivial⟩
              | false =>
                simp only [Bool.not_false, if_true, Bool.false_eq_true, if_false]
                refine SWp_cons ?_
                simp only [evS_exp, evE_mth, evE_var, evEs_cons, evEs_nil, sget, List.getElem?_cons_succ, List.getElem?_cons_zero, R.of_some, R.bind_ok, mthV_last, app_lst (show (tNs kept).length < 1000 by simp; omega), R.toS_ok, SWp_nx, evSs_nil]
                exact ⟨⟨_, _, _, _, rfl⟩, by rw [tNs_app]; rfl⟩
            · rintro s L' ⟨⟨y2, y3, y4, y5, rfl⟩, hL'⟩
              subst L'
              refine SWp_cons ?_
              simp only [evS_ret, evE_var, sget, List.getElem?_cons_succ, List.getElem?_cons_zero, R.of_some, R.toS_ok, SWp_rt]
              rw [List.length_map, List.take_length]
              exact ⟨by trivial, rfl⟩
          obtain ⟨v, L1, e, q1, q2⟩ := (RWp_evF (f := F_least) (vs := [v]) rfl (go.mono (fun _ _ h => h.elim) (fun _ _ h => h) (fun _ _ h => h) fun _ _ h => h)).ex
          subst q1 q2
          exact ⟨_, _, e, Sim.one (G := [.lst (tNs (leastF ss))]) (o := .lst (tNs (leastF ss))) hL (by simp) (Nat.le_refl _) (tNs_cl _ _)⟩
        · cases h
      · cases h
    · cases h
  · cases h
end G
set_option Elab.async false
set_option linter.all false
set_option maxRecDepth 100000
set_option maxHeartbeats 4000000
/-! G27: sets with a common beginning; what completes a carry. -/
namespace G
open PySem
def pre (p : List String) (ss : List (List String)) : List (List String) := ss.map (p ++ ·)
theorem pre_len (p : List String) (ss : List (List String)) : (pre p ss).length = ss.length := List.length_map _
theorem pre_beq (p a b : List String) : (p ++ a == p ++ b) = (a == b) := by
  rw [Bool.eq_iff_iff, beq_iff_eq, beq_iff_eq]
  exact List.append_cancel_left_eq p a b ▸ Iff.rfl
theorem ltDs_pre : ∀ (p a b : List String), ltDs ((p ++ a).map .str) ((p ++ b).map .str) = ltDs (a.map .str) (b.map .str)
  | [], a, b => rfl
  | c :: p, a, b => by
    have := ltDs_pre p a b
    simp only [List.cons_append, List.map_cons, ltDs, eqD, BEq.rfl, if_true, this]
theorem eqDs_pre (p a b : List String) : eqDs ((p ++ a).map .str) ((p ++ b).map .str) = eqDs (a.map .str) (b.map .str) := by
  rw [eqDs_str, eqDs_str, pre_beq]
theorem leS_pre (p a b : List String) : leS (p ++ a) (p ++ b) = leS a b := by
  have h1 : (((p ++ b).length : Int) == ((p ++ a).length : Int)) = ((b.length : Int) == (a.length : Int)) := by
    rw [Bool.eq_iff_iff, beq_iff_eq, beq_iff_eq, List.length_append, List.length_append]; omega
  have h2 : decide (((p ++ b).length : Int) < ((p ++ a).length : Int)) = decide ((b.length : Int) < (a.length : Int)) := by
    rw [Bool.eq_iff_iff, decide_eq_true_eq, decide_eq_true_eq, List.length_append, List.length_append]; omega
  simp only [leS, pdN, dN, ltD, ltDs, eqD, h1, h2, eqDs_pre, ltDs_pre]
  exact congrArg not (ite_congr rfl (fun _ => rfl) (fun _ => rfl))
theorem srt_pre (p : List String) (ss : List (List String)) : srtS (pre p ss) = pre p (srtS ss) := by
  unfold srtS pre
  rw [List.map_mergeSort (r := leS) (s := leS) (f := (p ++ ·)) fun a _ b _ => (leS_pre p a b).symm]
/-- none of p is in the set -/
def apart (p : List String) (x : List String) : Prop := ∀ z ∈ x, z ∉ p
theorem all_pre {p l x : List String} (h : apart p l) : ((p ++ l).all fun z => (p ++ x).contains z) = l.all fun z => x.contains z := by
  rw [Bool.eq_iff_iff, List.all_eq_true, List.all_eq_true]
  constructor
  · intro g z hz
    have := g z (List.mem_append_right _ hz)
    simp only [List.contains_iff_mem, List.mem_append] at this ⊢
    exact this.resolve_left (h z hz)
  · intro g z hz
    rcases List.mem_append.mp hz with hz | hz
    · simp [hz]
    · have := g z hz
      simp only [List.contains_iff_mem, List.mem_append] at this ⊢
      exact .inr this
theorem addF_pre {p : List String} {k : List (List String)} {x : List String} (h : ∀ l ∈ k, apart p l) : addF (pre p k) (p ++ x) = pre p (addF k x) := by
  have e : ((pre p k).any fun less => less.all fun z => (p ++ x).contains z) = k.any fun less => less.all fun z => x.contains z := by
    unfold pre
    rw [List.any_map]
    rw [Bool.eq_iff_iff, List.any_eq_true, List.any_eq_true]
    constructor
    · rintro ⟨l, h1, h2⟩
      exact ⟨l, h1, by rw [← all_pre (h l h1)]; exact h2⟩
    · rintro ⟨l, h1, h2⟩
      exact ⟨l, h1, by show ((p ++ l).all fun z => (p ++ x).contains z) = true; rw [all_pre (h l h1)]; exact h2⟩
  unfold addF
  rw [e]
  split
  · rfl
  · simp [pre]
theorem addF_mem {k : List (List String)} {x l : List String} (h : l ∈ addF k x) : l ∈ k ∨ l = x := by
  unfold addF at h
  split at h
  · exact .inl h
  · simpa using h
theorem fold_pre {p : List String} : ∀ (xs k : List (List String)), (∀ l ∈ k, apart p l) → (∀ l ∈ xs, apart p l) → (pre p xs).foldl addF (pre p k) = pre p (xs.foldl addF k)
  | [], k, _, _ => rfl
  | x :: xs, k, hk, hx => by
    show (pre p xs).foldl addF (addF (pre p k) (p ++ x)) = _
    rw [addF_pre hk]
    exact fold_pre xs (addF k x) (fun l hl => by
      rcases addF_mem hl with h | rfl
      · exact hk l h
      · exact hx _ List.mem_cons_self) fun l hl => hx l (List.mem_cons_of_mem _ hl)
theorem least_pre {p : List String} {ss : List (List String)} (h : ∀ l ∈ ss, apart p l) : leastF (pre p ss) = pre p (leastF ss) := by
  unfold leastF
  rw [srt_pre]
  exact fold_pre (srtS ss) [] (fun _ h => by cases h) fun l hl => h l ((List.mergeSort_perm _ _).mem_iff.mp hl)
theorem count_all (x y : List String) : ((x.filter fun z => y.contains z).length == x.length) = x.all fun z => y.contains z := by
  rw [Bool.eq_iff_iff, beq_iff_eq, List.length_filter_eq_length_iff, List.all_eq_true]
theorem addL_pre {p : List String} {ss k : List (List String)} {x : List String} (h : ∀ l ∈ ss, apart p l) : addL (pre p ss) (pre p k) (p ++ x) = pre p (addL ss k x) := by
  have e : ((pre p ss).filter fun two => !(two == p ++ x) && (two.filter fun z => (p ++ x).contains z).length == two.length).length = (ss.filter fun two => !(two == x) && (two.filter fun z => x.contains z).length == two.length).length := by
    unfold pre
    rw [List.filter_map, List.length_map]
    congr 1
    refine List.filter_congr fun l hl => ?_
    show (!(p ++ l == p ++ x) && ((p ++ l).filter fun z => (p ++ x).contains z).length == (p ++ l).length) = _
    rw [pre_beq, count_all, count_all, all_pre (h l hl)]
  have e2 : (pre p k).contains (p ++ x) = k.contains x := by
    rw [Bool.eq_iff_iff, List.contains_iff_mem, List.contains_iff_mem]
    unfold pre
    rw [List.mem_map]
    constructor
    · rintro ⟨a, h1, h2⟩
      rw [List.append_cancel_left h2] at h1
      exact h1
    · exact fun h => ⟨x, h, rfl⟩
  unfold addL
  rw [e, e2]
  split
  · simp [pre]
  · rfl
theorem lsets_pre {p : List String} {ss : List (List String)} (h : ∀ l ∈ ss, apart p l) : lsetsF (pre p ss) = pre p (lsetsF ss) := by
  have go : ∀ (xs k : List (List String)), (pre p xs).foldl (addL (pre p ss)) (pre p k) = pre p (xs.foldl (addL ss) k) := by
    intro xs
    induction xs with
    | nil => intro k; rfl
    | cons x xs ih =>
      intro k
      show (pre p xs).foldl (addL (pre p ss)) (addL (pre p ss) (pre p k) (p ++ x)) = _
      rw [addL_pre h]
      exact ih _
  unfold lsetsF
  have := go ss []
  rw [show pre p [] = [] from rfl] at this
  rw [this, srt_pre]
/-! ### the four ways -/
def waysX (a b : Bool) : List (List String) :=
  let w1 := if a then stepW [[]] ["flush_values", "tell_values"] else [[]]
  if b then stepW w1 ["drain_stores", "tell_stores"] else w1
theorem waysB_pre (a b d : Bool) : waysB a b d = pre (stateF d) (waysX a b) := by
  cases a <;> cases b <;> simp [waysB, waysX, stepW, pre]
def selW (b1 b2 b3 b4 : Bool) : List String := (if b1 then ["flush_values"] else []) ++ (if b2 then ["tell_values"] else []) ++ (if b3 then ["drain_stores"] else []) ++ (if b4 then ["tell_stores"] else [])
theorem sel_eq (q : String → Bool) : lways.filter q = selW (q "flush_values") (q "tell_values") (q "drain_stores") (q "tell_stores") := by
  simp only [lways, List.filter_cons, List.filter_nil, selW]
  generalize q "flush_values" = b1, q "tell_values" = b2, q "drain_stores" = b3, q "tell_stores" = b4
  cases b1 <;> cases b2 <;> cases b3 <;> cases b4 <;> rfl
/-- the k-th choice of these ways -/
def chosW (ws : List String) (k : Nat) : List String := ws.filter fun z => decide ((((k : Nat) : Int) / [1, 2, 4, 8].getD (ws.idxOf z) 1) % 2 = 1)
/-- with the ways that are lacked but for these -/
def okX (a b : Bool) (ws y : List String) : Bool := !(a && !(["flush_values", "tell_values"].any fun z => !ws.contains z || y.contains z)) && !(b && !(["drain_stores", "tell_stores"].any fun z => !ws.contains z || y.contains z))
def foundX (a b : Bool) (ws : List String) : List (List String) := ((List.range 16).filter fun k => okX a b ws (chosW ws k)).map (chosW ws)
def dueX (a b : Bool) (ws : List String) : List (List String) := leastF ((waysX a b).map fun x => x.filter fun z => ws.contains z)
theorem found_due : ∀ a b b1 b2 b3 b4, lsetsF (foundX a b (selW b1 b2 b3 b4)) = dueX a b (selW b1 b2 b3 b4) := by
  unfold lsetsF dueX leastF
  simp only [srK_eq]
  decide +kernel
theorem due_ok : ∀ a b b1 b2 b3 b4, (dueX a b (selW b1 b2 b3 b4)).all (fun x => okX a b (selW b1 b2 b3 b4) x && x.all fun z => !okX a b (selW b1 b2 b3 b4) (x.filter fun y => !(y == z))) = true := by
  unfold dueX leastF
  simp only [srK_eq]
  decide +kernel
theorem due_sub : ∀ a b b1 b2 b3 b4, (dueX a b (selW b1 b2 b3 b4)).all (fun x => x.all fun z => (selW b1 b2 b3 b4).contains z) = true ∧ (dueX a b (selW b1 b2 b3 b4)).length ≤ 4 ∧ (dueX a b (selW b1 b2 b3 b4)).all (fun x => decide (lways.filter (fun z => x.contains z) = x)) = true := by
  unfold dueX leastF
  simp only [srK_eq]
  decide +kernel
end G
set_option Elab.async false
set_option linter.all false
set_option maxRecDepth 100000
set_option maxHeartbeats 4000000
/-! G28: the union of sets of rules; carry_repairs, spare_rules. -/
namespace G
open PySem
def F_or (K Rn : String) : Fn := ⟨2, 3, [.ret (.frz (.new K [.frz (.cpr (.var 2) (.nm 2) (.of (.glo Rn)) (some (.or (.cmp .inn (.var 2) (.fld (.var 0) "names")) (.cmp .inn (.var 2) (.fld (.var 1) "names")))) [2])] []))]⟩
def S_or (K : String) (known : List String) (args : List LV) (L : LH) : R LV := match args with
  | [.ob _ ["names"] [.tup xs], .ob _ ["names"] [.tup ys]] => match unS xs, unS ys with
    | some ns, some ms => .ok (obN K (known.filter fun z => ns.contains z || ms.contains z)) L
    | _, _ => .stuck
  | _ => .stuck
theorem S_or_eq {K K1 K2 : String} {known ns ms : List String} {L : LH} : S_or K known [obN K1 ns, obN K2 ms] L = .ok (obN K (known.filter fun z => ns.contains z || ms.contains z)) L := by simp [S_or, obN]
theorem m_or {T C} {K Rn : String} {known : List String} (hk : okN known known = true) (hT : T.glob Rn = some (.tup (strL known))) (hC : C (K ++ ".__init__") = S_init known) : Meets (evF T C (F_or K Rn)) (S_or K known) := by
  intro args L r2 L2 hL ha h
  unfold S_or at h
  split at h
  · rename_i K1 xs K2 ys
    split at h
    · rename_i ns ms e1 e2
      cases h
      have e1 := of_unS e1
      have e2 := of_unS e2
      subst e1 e2
      have hl := okN_len hk
      have ec : evE T C (.frz (.cpr (.var 2) (.nm 2) (.of (.glo Rn)) (some (.or (.cmp .inn (.var 2) (.fld (.var 0) "names")) (.cmp .inn (.var 2) (.fld (.var 1) "names")))) [2])) [some (obN K1 ns), some (obN K2 ms), none] L = .ok (.fl (strL (known.filter fun z => ns.contains z || ms.contains z))) L :=
        flt (fun z => ns.contains z || ms.contains z) (by simp) (by simp only [evI_of, evE_glo, hT, R.of_some, R.bind_ok, itV]) (fun z hz L' => by
          simp only [evE_or, evE_cmp, evE_fld, evE_var, sget, List.set_cons_succ, List.set_cons_zero, List.getElem?_cons_succ, List.getElem?_cons_zero, R.of_some, R.bind_ok, fld_obN, cmpO_tup, inn_tup, Option.map_some, asB_bl]
          cases ns.contains z <;> cases ms.contains z <;> rfl) (by simp; omega)
      have hn := frz_new (T := T) (C := C) (K := K) (xs := [.frz (.cpr (.var 2) (.nm 2) (.of (.glo Rn)) (some (.or (.cmp .inn (.var 2) (.fld (.var 0) "names")) (.cmp .inn (.var 2) (.fld (.var 1) "names")))) [2])]) (s := [some (obN K1 ns), some (obN K2 ms), none]) (L := L) (by rw [evEs_cons, ec, R.bind_ok, evEs_nil, R.bind_ok]) hC (namesOf_fl _) (okN_filter hk)
      rw [ordF_filter] at hn
      have e : evSs T C (F_or K Rn).body [some (obN K1 ns), some (obN K2 ms), none] L = .rt (obN K (known.filter fun z => ns.contains z || ms.contains z)) L := by
        simp only [F_or, evSs_cons, evS_ret, hn, R.toS_ok, SR.bind_rt]
      exact ⟨_, _, evF_rt rfl e, Sim.refl hL (by simp) (Nat.le_refl _)⟩
    · cases h
  · cases h
/-! ### carry_repairs -/
def F_reps : Fn := ⟨3, 6, [.asg (.nm 3) (.lst []),
    .for (.nm 4) (.of (.call "whole_ways" [.var 1, .var 2] [])) [.exp (.mth (.var 3) "append" [.blt "tuple" [.frz (.cpr (.var 5) (.nm 5) (.of (.var 4)) (some (.not (.mth (.var 0) "has" [.var 5] []))) [5])]] [])],
    .ret (.call "least_sets" [.var 3] [])]⟩
def lackF (cs : List String) (ws : List (List String)) : List (List String) := ws.map fun w => w.filter fun z => !cs.contains z
def repF (cs ps : List String) (d : Bool) : List (List String) := leastF (lackF cs (waysB (defF ps) (bufF ps) d))
def S_reps (args : List LV) (L : LH) : R LV := match args with
  | [.ob "Carry" ["names"] [.tup xs], .ob "Policy" ["names"] [.tup ks], .bl d] => match unS xs, unS ks with
    | some cs, some ps => .ok (.ref L.length) (L ++ [.lst (tNs (repF cs ps d))])
    | _, _ => .stuck
  | _ => .stuck
@[simp] theorem S_reps_eq {cs ps : List String} {d : Bool} {L : LH} : S_reps [obN "Carry" cs, obN "Policy" ps, .bl d] L = .ok (.ref L.length) (L ++ [.lst (tNs (repF cs ps d))]) := by simp [S_reps, obN]
theorem m_reps {T C} (hh : C "Carry.has" = S_has) (h1 : C "least_sets" = S_leastR) (h2 : C "whole_ways" = S_ways) : Meets (evF T C F_reps) S_reps := by
  intro args L r2 L2 hL ha h
  unfold S_reps at h
  split at h
  · rename_i xs ks d
    split at h
    · rename_i cs ps e1 e2
      cases h
      have e1 := of_unS e1
      have e2 := of_unS e2
      subst e1 e2
      have wl := (ways_len (defF ps) (bufF ps) d).1
      have wl2 := (ways_len (defF ps) (bufF ps) d).2
      have hw := fun L9 => S_ways_eq (ps := ps) (d := d) (L := L9)
      unfold repF
      generalize waysB (defF ps) (bufF ps) d = W at wl wl2 hw
      have go : SWp (evSs T C F_reps.body [some (obN "Carry" cs), some (obN "Policy" ps), some (.bl d), none, none, none] L) No No No fun v L' => v = .ref (L.length + 1) ∧ L' = L ++ [.lst (tNs (lackF cs W)), .lst (tNs (leastF (lackF cs W)))] := by
        simp only [F_reps]
        refine SWp_cons ?_
        simp only [evS_asg, evE_lst, evEs_nil, R.bind_ok, List.length_nil, big_val, Nat.zero_le, if_true, evG_nm, List.length_cons, List.set_cons_succ, List.set_cons_zero, Nat.reduceAdd, Nat.reduceLT, R.toS_ok, SWp_nx]
        refine SWp_cons ?_
        simp only [evS_for, evI_of, evE_call, evEs_cons, evEs_nil, evE_var, sget, List.getElem?_cons_succ, List.getElem?_cons_zero, R.of_some, R.bind_ok, List.append_nil, h2, hw, itV, SWp_toS, RWp_ok]
        refine (forL_ix (fun i s L' => (∃ y4 y5, s = [some (obN "Carry" cs), some (obN "Policy" ps), some (.bl d), some (.ref L.length), y4, y5]) ∧ L' = L ++ [.lst (tNs (lackF cs (W.take i)))]) (fun _ _ _ _ => rfl) ?_ ⟨⟨_, _, rfl⟩, rfl⟩).mono ?_ (fun _ _ h => h) (fun _ _ h => h) (fun _ _ h => h)
        · rintro i x hx s L' ⟨⟨y4, y5, rfl⟩, hL'⟩
          subst L'
          rw [tNs, List.getElem?_map] at hx
          obtain ⟨w, hn, rfl⟩ := Option.map_eq_some_iff.mp hx
          have ht : W.take (i + 1) = W.take i ++ [w] := by rw [List.take_add_one, hn]; rfl
          have hk : (lackF cs (W.take i)).length < 1000 := by
            have h2 : (W.take i).length ≤ W.length := by rw [List.length_take]; exact Nat.min_le_right _ _
            rw [lackF, List.length_map]; omega
          have hwl : w.length ≤ 15 := of_decide_eq_true (List.all_eq_true.mp wl2 w (List.mem_of_getElem? hn))
          have hl : lackF cs (W.take (i + 1)) = lackF cs (W.take i) ++ [w.filter fun z => !cs.contains z] := by rw [ht]; simp [lackF]
          rw [hl]
          generalize lackF cs (W.take i) = acc at hk
          refine SWp_body ?_
          simp only [evG_nm, List.length_cons, List.length_nil, List.set_cons_succ, List.set_cons_zero, Nat.reduceAdd, Nat.reduceLT, if_true, RWp_ok]
          refine SWp_cons ?_
          have ec : evE T C (.frz (.cpr (.var 5) (.nm 5) (.of (.var 4)) (some (.not (.mth (.var 0) "has" [.var 5] []))) [5])) [some (obN "Carry" cs), some (obN "Policy" ps), some (.bl d), some (.ref L.length), some (tN w), y5] (L ++ [.lst (tNs acc)]) = .ok (.fl (strL (w.filter fun z => !cs.contains z))) (L ++ [.lst (tNs acc)]) :=
            flt (fun z => !cs.contains z) (by simp) (by simp only [evI_of, evE_var, sget, List.getElem?_cons_succ, List.getElem?_cons_zero, R.of_some, R.bind_ok, tN, itV]) (fun z hz L' => by
              have := S_has_eq (L := L') (K := "Carry") (ns := cs) (x := z)
              have em : evE T C (.mth (.var 0) "has" [.var 5] []) [some (obN "Carry" cs), some (obN "Policy" ps), some (.bl d), some (.ref L.length), some (tN w), some (.str z)] L' = .ok (.bl (cs.contains z)) L' := by
                simp only [evE_mth, evE_var, sget, List.getElem?_cons_zero, R.of_some, R.bind_ok]
                simp only [obN] at this ⊢
                rw [mthV_ob, if_pos (by simp [getO])]
                simp only [evEs_cons, evEs_nil, evE_var, sget, List.getElem?_cons_succ, List.getElem?_cons_zero, R.of_some, R.bind_ok, List.append_nil]
                show C "Carry.has" _ L' = _
                rw [hh, this]
              simp only [List.set_cons_succ, List.set_cons_zero, evE_not, em, R.bind_ok, asB_bl]) (by simp; omega)
          have et : ∀ L9 : LH, tupV [.fl (strL (w.filter fun z => !cs.contains z))] L9 = .ok (tN (w.filter fun z => !cs.contains z)) L9 := fun L9 => by
            have : (w.filter fun z => !cs.contains z).length ≤ 15 := Nat.le_trans (List.length_filter_le _ _) hwl
            simp only [tupV, seqAt, strL_len, tN]
            try rw [if_pos (by simp only [big_val]; omega)]
          have ea : evEs T C [.blt "tuple" [.frz (.cpr (.var 5) (.nm 5) (.of (.var 4)) (some (.not (.mth (.var 0) "has" [.var 5] []))) [5])]] [some (obN "Carry" cs), some (obN "Policy" ps), some (.bl d), some (.ref L.length), some (tN w), y5] (L ++ [.lst (tNs acc)]) = .ok [tN (w.filter fun z => !cs.contains z)] (L ++ [.lst (tNs acc)]) := by
            rw [evEs_cons, evE_blt, evEs_cons, ec]
            simp only [evEs_nil, R.bind_ok, bltV, et]
          simp only [evS_exp, evE_mth, evE_var, sget, List.getElem?_cons_succ, List.getElem?_cons_zero, R.of_some, R.bind_ok, mthV_last, ea, app_lst (show (tNs acc).length < 1000 by simp; omega), R.toS_ok, SWp_nx, evSs_nil]
          exact ⟨⟨_, _, rfl⟩, by rw [tNs_app]; rfl⟩
        · rintro s L' ⟨⟨y4, y5, rfl⟩, hL'⟩
          subst L'
          rw [tNs_len, List.take_length]
          refine SWp_cons ?_
          have hS : S_leastR [.ref L.length] (L ++ [.lst (tNs (lackF cs W))]) = .ok (.ref (L.length + 1)) (L ++ [.lst (tNs (lackF cs W)), .lst (tNs (leastF (lackF cs W)))]) := by
            simp only [S_leastR, lstAt, get_last, unT_tNs]
            rw [if_pos (by rw [lackF, List.length_map]; omega)]
            simp
          simp only [evS_ret, evE_call, evEs_cons, evEs_nil, evE_var, sget, List.getElem?_cons_succ, List.getElem?_cons_zero, R.of_some, R.bind_ok, List.append_nil, h1, hS, R.toS_ok, SWp_rt]
          exact ⟨by trivial, by trivial⟩
      obtain ⟨v, L1, e, q1, q2⟩ := (RWp_evF (f := F_reps) (vs := [obN "Carry" cs, obN "Policy" ps, .bl d]) rfl (go.mono (fun _ _ h => h.elim) (fun _ _ h => h) (fun _ _ h => h) fun _ _ h => h)).ex
      subst q1 q2
      exact ⟨_, _, e, Sim.one (o := .lst (tNs (leastF (lackF cs W)))) hL (by simp) (Nat.le_succ _) (tNs_cl _ _)⟩
    · cases h
  · cases h
end G
namespace G.k48
open PySem G
/-! the defs of law_k48_whole_carry_repairs_are_least; written by tr.py -/
def f_ordered_names : Fn := ⟨2, 4, [.asg (.nm 2) (.lst []),
    .for (.nm 3) (.of (.var 0)) [.ite (.or (.cmp .nin (.var 3) (.var 1)) (.cmp .inn (.var 3) (.var 2))) [.rse] [],
    .exp (.mth (.var 2) "append" [.var 3] [])],
    .ret (.blt "tuple" [.frz (.cpr (.var 3) (.nm 3) (.of (.var 1)) (some (.cmp .inn (.var 3) (.var 2))) [3])])]⟩
def f_Carry___init__ : Fn := ⟨2, 2, [.asg (.fld (.var 0) "names") (.call "ordered_names" [.var 1, .glo "CARRY_RULES"] [])]⟩
def f_Carry_has : Fn := ⟨2, 2, [.ret (.cmp .inn (.var 1) (.fld (.var 0) "names"))]⟩
def f_Carry___or__ : Fn := ⟨2, 3, [.ret (.frz (.new "Carry" [.frz (.cpr (.var 2) (.nm 2) (.of (.glo "CARRY_RULES")) (some (.or (.cmp .inn (.var 2) (.fld (.var 0) "names")) (.cmp .inn (.var 2) (.fld (.var 1) "names")))) [2])] []))]⟩
def f_Carry___sub__ : Fn := ⟨2, 3, [.ret (.frz (.new "Carry" [.frz (.cpr (.var 2) (.nm 2) (.of (.fld (.var 0) "names")) (some (.cmp .nin (.var 2) (.fld (.var 1) "names"))) [2])] []))]⟩
def f_Policy___init__ : Fn := ⟨2, 4, [.asg (.nm 2) (.lst []),
    .for (.nm 3) (.of (.var 1)) [.ite (.or (.cmp .nin (.var 3) (.glo "RULES")) (.cmp .inn (.var 3) (.var 2))) [.rse] [],
    .exp (.mth (.var 2) "append" [.var 3] [])],
    .asg (.fld (.var 0) "names") (.blt "tuple" [.frz (.cpr (.var 3) (.nm 3) (.of (.glo "RULES")) (some (.cmp .inn (.var 3) (.var 2))) [3])])]⟩
def f_Policy_has : Fn := ⟨2, 2, [.ret (.cmp .inn (.var 1) (.fld (.var 0) "names"))]⟩
def f_Policy___or__ : Fn := ⟨2, 3, [.ret (.frz (.new "Policy" [.frz (.cpr (.var 2) (.nm 2) (.of (.glo "RULES")) (some (.or (.cmp .inn (.var 2) (.fld (.var 0) "names")) (.cmp .inn (.var 2) (.fld (.var 1) "names")))) [2])] []))]⟩
def f_Policy___sub__ : Fn := ⟨2, 3, [.ret (.frz (.new "Policy" [.frz (.cpr (.var 2) (.nm 2) (.of (.fld (.var 0) "names")) (some (.cmp .nin (.var 2) (.fld (.var 1) "names"))) [2])] []))]⟩
def f_holds_set : Fn := ⟨2, 3, [.for (.nm 2) (.of (.var 1)) [.ite (.cmp .nin (.var 2) (.var 0)) [.ret (.con (.bl false))] []],
    .ret (.con (.bl true))]⟩
def f_least_sets : Fn := ⟨1, 6, [.asg (.nm 1) (.lst []),
    .for (.tup [.nm 2, .nm 3]) (.of (.frz (.blt "sorted" [.frz (.cpr (.tup [.blt "len" [.var 4], .var 4]) (.nm 4) (.of (.var 0)) none [4])]))) [.ite (.not (.blt "any" [.frz (.cpr (.call "holds_set" [.var 3, .var 5] []) (.nm 5) (.of (.var 1)) none [5])])) [.exp (.mth (.var 1) "append" [.var 3] [])] []],
    .ret (.var 1)]⟩
def f_has_one : Fn := ⟨2, 3, [.ret (.blt "any" [.frz (.cpr (.mth (.var 0) "has" [.var 2] []) (.nm 2) (.of (.var 1)) none [2])])]⟩
def f_defers_values : Fn := ⟨1, 1, [.ret (.not (.call "has_one" [.var 0, .tup [.con (.str "eager"), .con (.str "single")]] []))]⟩
def f_buffers_stores : Fn := ⟨1, 1, [.ret (.not (.call "has_one" [.var 0, .tup [.con (.str "prompt_store"), .con (.str "single"), .con (.str "stop_store")]] []))]⟩
def f_state_rules : Fn := ⟨1, 2, [.ret (.blt "tuple" [.frz (.cpr (.var 1) (.nm 1) (.of (.glo "STATE_RULES")) (some (.or (.var 0) (.cmp .ne (.var 1) (.con (.str "written"))))) [1])])]⟩
def f_missing_parts : Fn := ⟨3, 5, [.asg (.nm 3) (.cpr (.var 4) (.nm 4) (.of (.call "state_rules" [.var 2] [])) (some (.not (.mth (.var 0) "has" [.var 4] []))) [4]),
    .ite (.and (.call "defers_values" [.var 1] []) (.not (.call "has_one" [.var 0, .glo "VALUE_WAYS"] []))) [.exp (.mth (.var 3) "append" [.con (.str "values")] [])] [],
    .ite (.and (.call "buffers_stores" [.var 1] []) (.not (.call "has_one" [.var 0, .glo "STORE_WAYS"] []))) [.exp (.mth (.var 3) "append" [.con (.str "stores")] [])] [],
    .ret (.blt "tuple" [.var 3])]⟩
def f_is_whole : Fn := ⟨3, 3, [.ret (.cmp .eq (.blt "len" [.calk "missing_parts" [.var 0, .var 1] ["device"] [.var 2] []]) (.con (.int 0)))]⟩
def f_whole_ways : Fn := ⟨2, 5, [.asg (.nm 2) (.frz (.lst [.call "state_rules" [.var 1] []])),
    .ite (.call "defers_values" [.var 0] []) [.asg (.nm 2) (.frz (.cpr2 (.bin .add (.var 3) (.tup [.var 4])) (.nm 3) (.of (.var 2)) none (.nm 4) (.of (.glo "VALUE_WAYS")) none [3, 4] [4]))] [],
    .ite (.call "buffers_stores" [.var 0] []) [.asg (.nm 2) (.frz (.cpr2 (.bin .add (.var 3) (.tup [.var 4])) (.nm 3) (.of (.var 2)) none (.nm 4) (.of (.glo "STORE_WAYS")) none [3, 4] [4]))] [],
    .ret (.var 2)]⟩
def f_carry_repairs : Fn := ⟨3, 6, [.asg (.nm 3) (.lst []),
    .for (.nm 4) (.of (.call "whole_ways" [.var 1, .var 2] [])) [.exp (.mth (.var 3) "append" [.blt "tuple" [.frz (.cpr (.var 5) (.nm 5) (.of (.var 4)) (some (.not (.mth (.var 0) "has" [.var 5] []))) [5])]] [])],
    .ret (.call "least_sets" [.var 3] [])]⟩
def f_spare_rules : Fn := ⟨3, 5, [.ite (.not (.calk "is_whole" [.var 0, .var 1] ["device"] [.var 2] [])) [.ret (.tup [])] [],
    .asg (.nm 3) (.lst []),
    .for (.nm 4) (.of (.fld (.var 0) "names")) [.ite (.calk "is_whole" [.bin .sub (.var 0) (.frz (.new "Carry" [.frz (.lst [.var 4])] [])), .var 1] ["device"] [.var 2] []) [.exp (.mth (.var 3) "append" [.var 4] [])] []],
    .ret (.blt "tuple" [.var 3])]⟩
def f__law_row : Fn := ⟨2, 6, [.asg (.nm 2) (.lst []),
    .for (.nm 3) (.of (.var 0)) [.asg (.nm 4) (.blt "abs" [.blt "int" [.var 3]]),
    .for (.nm 5) (.rng [.con (.int 60)]) [.ite (.cmp .lt (.blt "len" [.var 2]) (.var 1)) [.exp (.mth (.var 2) "append" [.bin .mod (.var 4) (.con (.int 16))] [])] [],
    .asg (.nm 4) (.bin .fdv (.var 4) (.con (.int 16))),
    .ite (.cmp .eq (.var 4) (.con (.int 0))) [.brk] []]],
    .ret (.var 2)]⟩
def f__law_digit : Fn := ⟨2, 2, [.ite (.cmp .lt (.var 1) (.blt "len" [.var 0])) [.ret (.idx (.var 0) (.var 1))] [],
    .ret (.con (.int 0))]⟩
def f__law_pick : Fn := ⟨3, 4, [.asg (.nm 3) (.con (.int 0)),
    .ite (.cmp .lt (.var 1) (.blt "len" [.var 0])) [.asg (.nm 3) (.idx (.var 0) (.var 1))] [],
    .ite (.cmp .lt (.bin .add (.var 1) (.con (.int 1))) (.blt "len" [.var 0])) [.asg (.nm 3) (.bin .add (.var 3) (.bin .mul (.con (.int 16)) (.idx (.var 0) (.bin .add (.var 1) (.con (.int 1))))))] [],
    .ret (.bin .mod (.blt "int" [.var 3]) (.var 2))]⟩
def f__law_whole : Fn := ⟨1, 1, [.ret (.and (.isi (.var 0) ["int"]) (.not (.isi (.var 0) ["bool"])))]⟩
def f__law_equal : Fn := ⟨2, 9, [.asg (.nm 2) (.lst [.tup [.var 0, .var 1]]),
    .for (.nm 3) (.rng [.con (.int 6000)]) [.ite (.cmp .eq (.blt "len" [.var 2]) (.con (.int 0))) [.ret (.con (.bl true))] [],
    .asg (.nm 4) (.mth (.var 2) "pop" [] []),
    .asg (.nm 5) (.idx (.var 4) (.con (.int 0))),
    .asg (.nm 6) (.idx (.var 4) (.con (.int 1))),
    .ite (.or (.cmp .isn (.var 6) (.con .non)) (.isi (.var 6) ["bool"])) [.ite (.or (.cmp .ne (.isi (.var 5) ["bool"]) (.isi (.var 6) ["bool"])) (.cmp .ne (.var 5) (.var 6))) [.ret (.con (.bl false))] []] [.ite (.isi (.var 6) ["int"]) [.ite (.or (.not (.call "_law_whole" [.var 5] [])) (.cmp .ne (.var 5) (.var 6))) [.ret (.con (.bl false))] []] [.ite (.isi (.var 6) ["str"]) [.ite (.or (.not (.isi (.var 5) ["str"])) (.cmp .ne (.var 5) (.var 6))) [.ret (.con (.bl false))] []] [.ite (.or (.cmp .ne (.isi (.var 5) ["list"]) (.isi (.var 6) ["list"])) (.cmp .ne (.isi (.var 5) ["tuple"]) (.isi (.var 6) ["tuple"]))) [.ret (.con (.bl false))] [],
    .ite (.isi (.var 6) ["dict"]) [.ite (.or (.not (.isi (.var 5) ["dict"])) (.cmp .ne (.frz (.blt "list" [.var 5])) (.frz (.blt "list" [.var 6])))) [.ret (.con (.bl false))] [],
    .asg (.nm 5) (.frz (.cpr (.idx (.var 5) (.var 8)) (.nm 8) (.of (.var 6)) none [8])),
    .asg (.nm 6) (.frz (.cpr (.idx (.var 6) (.var 8)) (.nm 8) (.of (.var 6)) none [8]))] [],
    .ite (.cmp .ne (.blt "len" [.var 5]) (.blt "len" [.var 6])) [.ret (.con (.bl false))] [],
    .for (.nm 7) (.rng [.blt "len" [.var 6]]) [.exp (.mth (.var 2) "append" [.tup [.idx (.var 5) (.var 7), .idx (.var 6) (.var 7)]] [])]]]]],
    .ret (.con (.bl false))]⟩
def f__law_rules : Fn := ⟨0, 1, [.asg (.nm 0) (.con (.str "invalidate_store invalidate_device track_frames track_prepared track_second invalidate_map")),
    .asg (.nm 0) (.bin .add (.var 0) (.con (.str " invalidate_rights key_level leave_self leave_other cut_links clear_links hold_slot check_entry"))),
    .asg (.nm 0) (.bin .add (.var 0) (.con (.str " stop_page stop_store no_links single eager flush_exit flush_source keep_dropped map_inspect"))),
    .asg (.nm 0) (.bin .add (.var 0) (.con (.str " map_fault flush_fault map_leave prompt_store poll_entry poll_backward"))),
    .ret (.frz (.mth (.var 0) "split" [.con (.str " ")] []))]⟩
def f__law_carry_rules : Fn := ⟨0, 1, [.asg (.nm 0) (.con (.str "cells pages rights written counter registers flags level enabled pending saved halted second")),
    .asg (.nm 0) (.bin .add (.var 0) (.con (.str " flush_values tell_values drain_stores tell_stores entries"))),
    .ret (.frz (.mth (.var 0) "split" [.con (.str " ")] []))]⟩
def f__law_any : Fn := ⟨2, 5, [.asg (.nm 2) (.call "_law_rules" [] []),
    .asg (.nm 3) (.idx (.frz (.lst [.con (.int 7), .con (.int 3), .con (.int 11), .con (.int 7)])) (.bin .mod (.blt "int" [.call "_law_digit" [.var 0, .var 1] []]) (.con (.int 4)))),
    .ret (.frz (.cpr (.idx (.var 2) (.var 4)) (.nm 4) (.rng [.con (.int 29)]) (some (.cmp .gt (.bin .mod (.blt "int" [.bin .add (.bin .add (.call "_law_digit" [.var 0, .bin .add (.bin .add (.var 1) (.con (.int 1))) (.var 4)] []) (.bin .mul (.con (.int 5)) (.var 4))) (.con (.int 4))]) (.con (.int 16))) (.var 3))) [4]))]⟩
def f__law_handing : Fn := ⟨2, 5, [.asg (.nm 2) (.frz (.slc (.call "_law_carry_rules" [] []) none (some (.con (.int 13))))),
    .asg (.nm 3) (.frz (.lst [.frz (.lst [.con (.str "flush_values")]), .frz (.lst [.con (.str "tell_values")]), .frz (.lst [.con (.str "flush_values"), .con (.str "tell_values")])])),
    .asg (.nm 4) (.frz (.lst [.frz (.lst [.con (.str "drain_stores")]), .frz (.lst [.con (.str "tell_stores")]), .frz (.lst [.con (.str "drain_stores"), .con (.str "tell_stores")])])),
    .asg (.nm 2) (.frz (.bin .add (.frz (.bin .add (.var 2) (.idx (.var 3) (.bin .mod (.blt "int" [.call "_law_digit" [.var 0, .var 1] []]) (.con (.int 3)))))) (.idx (.var 4) (.bin .mod (.blt "int" [.call "_law_digit" [.var 0, .bin .add (.var 1) (.con (.int 1))] []]) (.con (.int 3)))))),
    .ite (.cmp .eq (.bin .mod (.blt "int" [.call "_law_digit" [.var 0, .bin .add (.var 1) (.con (.int 2))] []]) (.con (.int 2))) (.con (.int 1))) [.asg (.nm 2) (.frz (.bin .add (.var 2) (.frz (.lst [.con (.str "entries")]))))] [],
    .ret (.var 2)]⟩
def f__law_some_carry : Fn := ⟨2, 5, [.asg (.nm 2) (.call "_law_carry_rules" [] []),
    .asg (.nm 3) (.idx (.frz (.lst [.con (.int 12), .con (.int 15), .con (.int 7), .con (.int 14)])) (.bin .mod (.blt "int" [.call "_law_digit" [.var 0, .var 1] []]) (.con (.int 4)))),
    .ret (.frz (.cpr (.idx (.var 2) (.var 4)) (.nm 4) (.rng [.con (.int 18)]) (some (.cmp .lt (.bin .mod (.blt "int" [.bin .add (.call "_law_digit" [.var 0, .bin .add (.bin .add (.var 1) (.con (.int 1))) (.var 4)] []) (.bin .mul (.con (.int 3)) (.var 4))]) (.con (.int 16))) (.var 3))) [4]))]⟩
def f__law_missing : Fn := ⟨3, 5, [.asg (.nm 3) (.cpr (.var 4) (.nm 4) (.of (.frz (.slc (.call "_law_carry_rules" [] []) none (some (.con (.int 13)))))) (some (.and (.cmp .nin (.var 4) (.var 0)) (.or (.var 2) (.cmp .ne (.var 4) (.con (.str "written")))))) [4]),
    .ite (.and (.cmp .nin (.con (.str "eager")) (.var 1)) (.cmp .nin (.con (.str "single")) (.var 1))) [.ite (.and (.cmp .nin (.con (.str "flush_values")) (.var 0)) (.cmp .nin (.con (.str "tell_values")) (.var 0))) [.exp (.mth (.var 3) "append" [.con (.str "values")] [])] []] [],
    .ite (.and (.cmp .nin (.con (.str "prompt_store")) (.var 1)) (.and (.cmp .nin (.con (.str "single")) (.var 1)) (.cmp .nin (.con (.str "stop_store")) (.var 1)))) [.ite (.and (.cmp .nin (.con (.str "drain_stores")) (.var 0)) (.cmp .nin (.con (.str "tell_stores")) (.var 0))) [.exp (.mth (.var 3) "append" [.con (.str "stores")] [])] []] [],
    .ret (.var 3)]⟩
def f__law_sets : Fn := ⟨1, 7, [.asg (.nm 1) (.lst []),
    .for (.nm 2) (.of (.var 0)) [.asg (.nm 4) (.frz (.cpr (.var 5) (.nm 5) (.of (.var 0)) (some (.and (.cmp .ne (.var 5) (.var 2)) (.cmp .eq (.blt "len" [.frz (.cpr (.var 6) (.nm 6) (.of (.var 5)) (some (.cmp .inn (.var 6) (.var 2))) [6])]) (.blt "len" [.var 5])))) [5])),
    .ite (.and (.cmp .eq (.blt "len" [.var 4]) (.con (.int 0))) (.cmp .nin (.var 2) (.var 1))) [.exp (.mth (.var 1) "append" [.var 2] [])] []],
    .asg (.nm 3) (.frz (.blt "sorted" [.frz (.cpr (.tup [.blt "len" [.var 2], .var 2]) (.nm 2) (.of (.var 1)) none [2])])),
    .ret (.frz (.cpr (.idx (.var 2) (.con (.int 1))) (.nm 2) (.of (.var 3)) none [2]))]⟩
def f__law_repairs : Fn := ⟨3, 10, [.asg (.nm 3) (.frz (.cpr (.var 8) (.nm 8) (.of (.frz (.slc (.call "_law_carry_rules" [] []) none (some (.con (.int 13)))))) (some (.and (.cmp .nin (.var 8) (.var 0)) (.or (.var 2) (.cmp .ne (.var 8) (.con (.str "written")))))) [8])),
    .asg (.nm 4) (.frz (.cpr (.var 8) (.nm 8) (.of (.frz (.slc (.call "_law_carry_rules" [] []) (some (.con (.int 13))) (some (.con (.int 17)))))) (some (.cmp .nin (.var 8) (.var 0))) [8])),
    .asg (.nm 5) (.lst []),
    .for (.nm 6) (.rng [.con (.int 16)]) [.asg (.nm 7) (.frz (.cpr (.idx (.var 4) (.var 9)) (.nm 9) (.rng [.blt "len" [.var 4]]) (some (.cmp .eq (.bin .mod (.blt "int" [.bin .fdv (.var 6) (.idx (.frz (.lst [.con (.int 1), .con (.int 2), .con (.int 4), .con (.int 8)])) (.var 9))]) (.con (.int 2))) (.con (.int 1)))) [9])),
    .ite (.cmp .eq (.blt "len" [.call "_law_missing" [.frz (.bin .add (.frz (.bin .add (.var 0) (.var 3))) (.var 7)), .var 1, .var 2] []]) (.con (.int 0))) [.exp (.mth (.var 5) "append" [.blt "tuple" [.frz (.bin .add (.var 3) (.var 7))]] [])] []],
    .ret (.call "_law_sets" [.var 5] [])]⟩
def f__law_spare : Fn := ⟨3, 6, [.ite (.cmp .gt (.blt "len" [.call "_law_missing" [.var 0, .var 1, .var 2] []]) (.con (.int 0))) [.ret (.tup [])] [],
    .asg (.nm 3) (.lst []),
    .for (.nm 4) (.of (.var 0)) [.ite (.cmp .eq (.blt "len" [.call "_law_missing" [.frz (.cpr (.var 5) (.nm 5) (.of (.var 0)) (some (.cmp .ne (.var 5) (.var 4))) [5]), .var 1, .var 2] []]) (.con (.int 0))) [.exp (.mth (.var 3) "append" [.var 4] [])] []],
    .ret (.blt "tuple" [.var 3])]⟩
def f__law_asked : Fn := ⟨3, 10, [.asg (.nm 3) (.frz (.new "Carry" [.var 0] [])),
    .asg (.nm 4) (.frz (.new "Policy" [.var 1] [])),
    .asg (.nm 5) (.call "_law_repairs" [.var 0, .var 1, .var 2] []),
    .asg (.nm 6) (.calk "carry_repairs" [.var 3, .var 4] ["device"] [.var 2] []),
    .ite (.or (.not (.call "_law_equal" [.var 6, .var 5] [])) (.not (.call "_law_equal" [.calk "spare_rules" [.var 3, .var 4] ["device"] [.var 2] [], .call "_law_spare" [.var 0, .var 1, .var 2] []] []))) [.ret (.con (.bl false))] [],
    .for (.nm 7) (.of (.var 5)) [.ite (.not (.calk "is_whole" [.bin .bor (.var 3) (.frz (.new "Carry" [.var 7] [])), .var 4] ["device"] [.var 2] [])) [.ret (.con (.bl false))] [],
    .for (.nm 8) (.of (.var 7)) [.ite (.calk "is_whole" [.bin .bor (.var 3) (.frz (.new "Carry" [.frz (.cpr (.var 9) (.nm 9) (.of (.var 7)) (some (.cmp .ne (.var 9) (.var 8))) [9])] [])), .var 4] ["device"] [.var 2] []) [.ret (.con (.bl false))] []]],
    .exp (.mth (.var 6) "append" [.tup [.con (.str "cells")]] []),
    .ite (.and (.var 2) (.not (.call "_law_equal" [.call "carry_repairs" [.var 3, .var 4] [.bl true], .var 5] []))) [.ret (.con (.bl false))] [],
    .ite (.and (.var 2) (.not (.call "_law_equal" [.call "spare_rules" [.var 3, .var 4] [.bl true], .call "_law_spare" [.var 0, .var 1, .con (.bl true)] []] []))) [.ret (.con (.bl false))] [],
    .ret (.and (.call "_law_equal" [.fld (.var 3) "names", .blt "tuple" [.var 0]] []) (.call "_law_equal" [.fld (.var 4) "names", .blt "tuple" [.var 1]] []))]⟩
def f_law : Fn := ⟨1, 11, [.asg (.nm 1) (.call "_law_row" [.var 0, .con (.int 150)] []),
    .for (.nm 2) (.rng [.con (.int 3)]) [.asg (.nm 3) (.bin .mul (.con (.int 50)) (.blt "int" [.var 2])),
    .asg (.nm 4) (.call "_law_any" [.var 1, .var 3] []),
    .ite (.cmp .eq (.var 2) (.con (.int 1))) [.asg (.nm 4) (.frz (.cpr (.var 10) (.nm 10) (.of (.var 4)) (some (.cmp .nin (.var 10) (.frz (.lst [.con (.str "eager"), .con (.str "single"), .con (.str "prompt_store"), .con (.str "stop_store")])))) [10]))] [],
    .asg (.nm 5) (.call "_law_pick" [.var 1, .bin .add (.var 3) (.con (.int 30)), .con (.int 18)] []),
    .asg (.nm 6) (.frz (.cpr (.idx (.call "_law_carry_rules" [] []) (.var 9)) (.nm 9) (.rng [.con (.int 18)]) (some (.and (.cmp .ne (.var 9) (.var 5)) (.cmp .ne (.var 9) (.bin .mod (.blt "int" [.bin .add (.var 5) (.call "_law_digit" [.var 1, .bin .add (.var 3) (.con (.int 32))] [])]) (.con (.int 18)))))) [9])),
    .asg (.nm 7) (.frz (.cpr (.var 10) (.nm 10) (.of (.var 6)) (some (.cmp .nin (.var 10) (.frz (.slc (.call "_law_carry_rules" [] []) (some (.con (.int 13))) (some (.con (.int 17))))))) [10])),
    .for (.nm 8) (.of (.frz (.lst [.call "_law_some_carry" [.var 1, .bin .add (.var 3) (.con (.int 31))] [], .var 6, .call "_law_handing" [.var 1, .bin .add (.var 3) (.con (.int 33))] [], .var 7, .call "_law_carry_rules" [] [], .frz (.lst [])]))) [.ite (.or (.not (.call "_law_asked" [.var 8, .var 4, .con (.bl true)] [])) (.not (.call "_law_asked" [.var 8, .var 4, .con (.bl false)] []))) [.ret (.con (.bl false))] []]],
    .ret (.con (.bl true))]⟩
def globs : List (String × LV) := [("CARRY_RULES", .tup [.str "cells", .str "pages", .str "rights", .str "written", .str "counter", .str "registers", .str "flags", .str "level", .str "enabled", .str "pending", .str "saved", .str "halted", .str "second", .str "flush_values", .str "tell_values", .str "drain_stores", .str "tell_stores", .str "entries"]), ("RULES", .tup [.str "invalidate_store", .str "invalidate_device", .str "track_frames", .str "track_prepared", .str "track_second", .str "invalidate_map", .str "invalidate_rights", .str "key_level", .str "leave_self", .str "leave_other", .str "cut_links", .str "clear_links", .str "hold_slot", .str "check_entry", .str "stop_page", .str "stop_store", .str "no_links", .str "single", .str "eager", .str "flush_exit", .str "flush_source", .str "keep_dropped", .str "map_inspect", .str "map_fault", .str "flush_fault", .str "map_leave", .str "prompt_store", .str "poll_entry", .str "poll_backward"]), ("STATE_RULES", .tup [.str "cells", .str "pages", .str "rights", .str "written", .str "counter", .str "registers", .str "flags", .str "level", .str "enabled", .str "pending", .str "saved", .str "halted", .str "second"]), ("VALUE_WAYS", .tup [.str "flush_values", .str "tell_values"]), ("STORE_WAYS", .tup [.str "drain_stores", .str "tell_stores"])]
def dlaw : DefC := ⟨"law", "law", none, ["script"], ["script", "row", "k", "at", "rules", "out", "near", "bare", "names", "j", "name"], f_law⟩
def pkg : Pkg := ⟨[⟨"ordered_names", "ordered_names", none, ["names", "known"], ["names", "known", "chosen", "name"], f_ordered_names⟩,
  ⟨"Carry.__init__", "__init__", (some "Carry"), ["self", "names"], ["self", "names"], f_Carry___init__⟩,
  ⟨"Carry.has", "has", (some "Carry"), ["self", "name"], ["self", "name"], f_Carry_has⟩,
  ⟨"Carry.__or__", "__or__", (some "Carry"), ["self", "other"], ["self", "other", "name"], f_Carry___or__⟩,
  ⟨"Carry.__sub__", "__sub__", (some "Carry"), ["self", "other"], ["self", "other", "name"], f_Carry___sub__⟩,
  ⟨"Policy.__init__", "__init__", (some "Policy"), ["self", "names"], ["self", "names", "chosen", "name"], f_Policy___init__⟩,
  ⟨"Policy.has", "has", (some "Policy"), ["self", "name"], ["self", "name"], f_Policy_has⟩,
  ⟨"Policy.__or__", "__or__", (some "Policy"), ["self", "other"], ["self", "other", "name"], f_Policy___or__⟩,
  ⟨"Policy.__sub__", "__sub__", (some "Policy"), ["self", "other"], ["self", "other", "name"], f_Policy___sub__⟩,
  ⟨"holds_set", "holds_set", none, ["names", "part"], ["names", "part", "name"], f_holds_set⟩,
  ⟨"least_sets", "least_sets", none, ["sets"], ["sets", "kept", "_", "names", "one", "less"], f_least_sets⟩,
  ⟨"has_one", "has_one", none, ["rules", "names"], ["rules", "names", "name"], f_has_one⟩,
  ⟨"defers_values", "defers_values", none, ["policy"], ["policy"], f_defers_values⟩,
  ⟨"buffers_stores", "buffers_stores", none, ["policy"], ["policy"], f_buffers_stores⟩,
  ⟨"state_rules", "state_rules", none, ["device"], ["device", "name"], f_state_rules⟩,
  ⟨"missing_parts", "missing_parts", none, ["carry", "policy", "device"], ["carry", "policy", "device", "missing", "name"], f_missing_parts⟩,
  ⟨"is_whole", "is_whole", none, ["carry", "policy", "device"], ["carry", "policy", "device"], f_is_whole⟩,
  ⟨"whole_ways", "whole_ways", none, ["policy", "device"], ["policy", "device", "ways", "way", "name"], f_whole_ways⟩,
  ⟨"carry_repairs", "carry_repairs", none, ["carry", "policy", "device"], ["carry", "policy", "device", "missing", "way", "name"], f_carry_repairs⟩,
  ⟨"spare_rules", "spare_rules", none, ["carry", "policy", "device"], ["carry", "policy", "device", "spare", "name"], f_spare_rules⟩,
  ⟨"_law_row", "_law_row", none, ["script", "most"], ["script", "most", "row", "cell", "rest", "k"], f__law_row⟩,
  ⟨"_law_digit", "_law_digit", none, ["row", "at"], ["row", "at"], f__law_digit⟩,
  ⟨"_law_pick", "_law_pick", none, ["row", "at", "limit"], ["row", "at", "limit", "value"], f__law_pick⟩,
  ⟨"_law_whole", "_law_whole", none, ["value"], ["value"], f__law_whole⟩,
  ⟨"_law_equal", "_law_equal", none, ["actual", "expected"], ["actual", "expected", "waiting", "k", "pair", "one", "due", "j", "key"], f__law_equal⟩,
  ⟨"_law_rules", "_law_rules", none, [], ["text"], f__law_rules⟩,
  ⟨"_law_carry_rules", "_law_carry_rules", none, [], ["text"], f__law_carry_rules⟩,
  ⟨"_law_any", "_law_any", none, ["row", "at"], ["row", "at", "rules", "bound", "k"], f__law_any⟩,
  ⟨"_law_handing", "_law_handing", none, ["row", "at"], ["row", "at", "names", "values", "stores"], f__law_handing⟩,
  ⟨"_law_some_carry", "_law_some_carry", none, ["row", "at"], ["row", "at", "rules", "bound", "k"], f__law_some_carry⟩,
  ⟨"_law_missing", "_law_missing", none, ["names", "rules", "dev"], ["names", "rules", "dev", "lost", "name"], f__law_missing⟩,
  ⟨"_law_sets", "_law_sets", none, ["sets"], ["sets", "kept", "one", "pairs", "smaller", "two", "name"], f__law_sets⟩,
  ⟨"_law_repairs", "_law_repairs", none, ["names", "rules", "dev"], ["names", "rules", "dev", "lacks", "ways", "found", "k", "chosen", "name", "j"], f__law_repairs⟩,
  ⟨"_law_spare", "_law_spare", none, ["names", "rules", "dev"], ["names", "rules", "dev", "found", "name", "one"], f__law_spare⟩,
  ⟨"_law_asked", "_law_asked", none, ["names", "rules", "dev"], ["names", "rules", "dev", "carry", "policy", "due", "told", "one", "name", "two"], f__law_asked⟩, dlaw],
  ["Carry", "Policy"], globs,
  ⟨[("ordered_names", 2, []), ("holds_set", 2, []), ("has_one", 2, []), ("state_rules", 1, []), ("defers_values", 1, []), ("buffers_stores", 1, []), ("whole_ways", 2, []), ("least_sets", 1, []), ("_law_whole", 1, []), ("_law_rules", 0, []), ("_law_digit", 2, []), ("_law_carry_rules", 0, []), ("_law_missing", 3, []), ("_law_sets", 1, []), ("_law_repairs", 3, []), ("_law_equal", 2, []), ("_law_spare", 3, []), ("carry_repairs", 2, [.bl true]), ("spare_rules", 2, [.bl true]), ("_law_row", 2, []), ("_law_any", 2, []), ("_law_pick", 3, []), ("_law_some_carry", 2, []), ("_law_handing", 2, []), ("_law_asked", 3, [])],
   [("missing_parts", 2, ["device"], []), ("is_whole", 2, ["device"], []), ("carry_repairs", 2, ["device"], []), ("spare_rules", 2, ["device"], [])],
   [("Carry", 1, []), ("Policy", 1, [])],
   [("append", 1, []), ("has", 1, []), ("pop", 0, []), ("split", 1, [])],
   ["names"],
   ["__contains__", "__sub__", "__or__"],
   []⟩⟩
def dep : String → Nat
  | "ordered_names" => 1
  | "Carry.__init__" => 2
  | "Carry.has" => 1
  | "Carry.__or__" => 3
  | "Carry.__sub__" => 3
  | "Policy.__init__" => 1
  | "Policy.has" => 1
  | "Policy.__or__" => 2
  | "Policy.__sub__" => 2
  | "holds_set" => 1
  | "least_sets" => 2
  | "has_one" => 2
  | "defers_values" => 3
  | "buffers_stores" => 3
  | "state_rules" => 1
  | "missing_parts" => 4
  | "is_whole" => 5
  | "whole_ways" => 4
  | "carry_repairs" => 5
  | "spare_rules" => 6
  | "_law_row" => 1
  | "_law_digit" => 1
  | "_law_pick" => 1
  | "_law_whole" => 1
  | "_law_equal" => 2
  | "_law_rules" => 1
  | "_law_carry_rules" => 1
  | "_law_any" => 2
  | "_law_handing" => 2
  | "_law_some_carry" => 2
  | "_law_missing" => 2
  | "_law_sets" => 1
  | "_law_repairs" => 3
  | "_law_spare" => 3
  | "_law_asked" => 7
  | "law" => 8
  | _ => 0
def fns : List (String × Fn) := [("ordered_names", f_ordered_names), ("Carry.__init__", f_Carry___init__), ("Carry.has", f_Carry_has), ("Carry.__or__", f_Carry___or__), ("Carry.__sub__", f_Carry___sub__), ("Policy.__init__", f_Policy___init__), ("Policy.has", f_Policy_has), ("Policy.__or__", f_Policy___or__), ("Policy.__sub__", f_Policy___sub__), ("holds_set", f_holds_set), ("least_sets", f_least_sets), ("has_one", f_has_one), ("defers_values", f_defers_values), ("buffers_stores", f_buffers_stores), ("state_rules", f_state_rules), ("missing_parts", f_missing_parts), ("is_whole", f_is_whole), ("whole_ways", f_whole_ways), ("carry_repairs", f_carry_repairs), ("spare_rules", f_spare_rules), ("_law_row", f__law_row), ("_law_digit", f__law_digit), ("_law_pick", f__law_pick), ("_law_whole", f__law_whole), ("_law_equal", f__law_equal), ("_law_rules", f__law_rules), ("_law_carry_rules", f__law_carry_rules), ("_law_any", f__law_any), ("_law_handing", f__law_handing), ("_law_some_carry", f__law_some_carry), ("_law_missing", f__law_missing), ("_law_sets", f__law_sets), ("_law_repairs", f__law_repairs), ("_law_spare", f__law_spare), ("_law_asked", f__law_asked), ("law", f_law)]
end G.k48
set_option Elab.async false
set_option linter.all false
set_option maxRecDepth 100000
set_option maxHeartbeats 4000000
namespace G.k48
open PySem G
/-! ### what completes a carry -/
def lacksF (cs : List String) (d : Bool) : List String := (stateF d).filter fun z => !cs.contains z
def wayF (cs : List String) : List String := lways.filter fun z => !cs.contains z
theorem way_no_state : ∀ d, lways.all (fun z => !(stateF d).contains z) = true := by decide +kernel
theorem state_c : ∀ d, (stateF d).all (fun z => crules.contains z) = true := by decide +kernel
theorem ways_c : lways.all (fun z => crules.contains z) = true := by decide +kernel
theorem not_lack {cs : List String} {d : Bool} {z : String} (h : z ∈ lways) : z ∉ lacksF cs d := by
  intro hz
  have h1 := List.all_eq_true.mp (way_no_state d) z h
  have h2 := (List.mem_filter.mp hz).1
  simp [h2] at h1
theorem apart_of {cs : List String} {d : Bool} {x : List String} (h : ∀ z ∈ x, z ∈ lways) : apart (lacksF cs d) x := fun z hz => not_lack (h z hz)
theorem way_not {cs : List String} {z : String} (h : z ∈ lways) : (wayF cs).contains z = !cs.contains z := by
  rw [Bool.eq_iff_iff, List.contains_iff_mem]
  unfold wayF
  rw [List.mem_filter]
  exact ⟨fun x => x.2, fun x => ⟨h, x⟩⟩
theorem chosW_sub {ws : List String} {k : Nat} {z : String} (h : z ∈ chosW ws k) : z ∈ ws := (List.mem_filter.mp h).1
theorem fw : "flush_values" ∈ lways := by simp [lways]
theorem tw : "tell_values" ∈ lways := by simp [lways]
theorem dw : "drain_stores" ∈ lways := by simp [lways]
theorem sw : "tell_stores" ∈ lways := by simp [lways]
theorem cont_way {cs y : List String} {d : Bool} {z : String} (h : z ∈ lways) : ((cs ++ lacksF cs d) ++ y).contains z = (!(wayF cs).contains z || y.contains z) := by
  rw [way_not h, Bool.not_not, Bool.eq_iff_iff, Bool.or_eq_true, List.contains_iff_mem, List.contains_iff_mem, List.contains_iff_mem, List.mem_append, List.mem_append]
  have := not_lack (cs := cs) (d := d) h
  constructor
  · rintro ((h | h) | h)
    · exact .inl h
    · exact (this h).elim
    · exact .inr h
  · rintro (h | h)
    · exact .inl (.inl h)
    · exact .inr h
theorem any2 (p q : String → Bool) (x y : String) (h1 : p x = q x) (h2 : p y = q y) : ([x, y].any p) = ([x, y].any q) := by simp only [List.any_cons, List.any_nil, h1, h2]
theorem miss0 (a b : Bool) (cs : List String) (d : Bool) : ((missB a b cs d).length == 0) = (((stateF d).all fun z => cs.contains z) && (!(a && !(["flush_values", "tell_values"].any fun z => cs.contains z)) && !(b && !(["drain_stores", "tell_stores"].any fun z => cs.contains z)))) := by
  unfold missB
  rw [List.length_append, List.length_append]
  have e : (((stateF d).filter fun z => !cs.contains z).length == 0) = (stateF d).all fun z => cs.contains z := by
    rw [Bool.eq_iff_iff, beq_iff_eq, List.length_eq_zero_iff, List.filter_eq_nil_iff, List.all_eq_true]
    simp
  generalize (a && !(["flush_values", "tell_values"].any fun z => cs.contains z)) = u, (b && !(["drain_stores", "tell_stores"].any fun z => cs.contains z)) = v
  rw [← e]
  generalize ((stateF d).filter fun z => !cs.contains z).length = n
  cases u <;> cases v <;> cases n <;> simp
theorem miss_okX (a b d : Bool) (cs y : List String) : ((missB a b ((cs ++ lacksF cs d) ++ y) d).length == 0) = okX a b (wayF cs) y := by
  rw [miss0]
  have h1 : ((stateF d).all fun z => ((cs ++ lacksF cs d) ++ y).contains z) = true := by
    rw [List.all_eq_true]
    intro z hz
    rw [List.contains_iff_mem, List.mem_append, List.mem_append]
    by_cases hc : z ∈ cs
    · exact .inl (.inl hc)
    · exact .inl (.inr (List.mem_filter.mpr ⟨hz, by simpa using hc⟩))
  rw [h1, Bool.true_and]
  unfold okX
  rw [any2 _ (fun z => !(wayF cs).contains z || y.contains z) _ _ (cont_way fw) (cont_way tw), any2 _ (fun z => !(wayF cs).contains z || y.contains z) _ _ (cont_way dw) (cont_way sw)]
theorem waysX_sub : ∀ a b, (waysX a b).all (fun x => x.all fun z => lways.contains z) = true := by decide +kernel
theorem way_sel (cs : List String) : wayF cs = selW (!cs.contains "flush_values") (!cs.contains "tell_values") (!cs.contains "drain_stores") (!cs.contains "tell_stores") := sel_eq _
theorem rep_pre (cs ps : List String) (d : Bool) : repF cs ps d = pre (lacksF cs d) (dueX (defF ps) (bufF ps) (wayF cs)) := by
  unfold repF dueX
  rw [waysB_pre]
  generalize defF ps = a, bufF ps = b
  have hx := waysX_sub a b
  have e : lackF cs (pre (stateF d) (waysX a b)) = pre (lacksF cs d) ((waysX a b).map fun x => x.filter fun z => (wayF cs).contains z) := by
    unfold lackF pre lacksF
    rw [List.map_map, List.map_map]
    refine List.map_congr_left fun x hxm => ?_
    show (stateF d ++ x).filter _ = _ ++ _
    rw [List.filter_append]
    congr 1
    refine List.filter_congr fun z hz => ?_
    have : z ∈ lways := by
      have := List.all_eq_true.mp (List.all_eq_true.mp hx x hxm) z hz
      simpa using this
    rw [way_not this]
  rw [e, least_pre]
  intro l hl
  obtain ⟨x, hxm, rfl⟩ := List.mem_map.mp hl
  refine apart_of fun z hz => ?_
  have := List.all_eq_true.mp (List.all_eq_true.mp hx x hxm) z (List.mem_filter.mp hz).1
  simpa using this
theorem found_pre (cs : List String) (a b d : Bool) : lsetsF (pre (lacksF cs d) (foundX a b (wayF cs))) = pre (lacksF cs d) (dueX a b (wayF cs)) := by
  rw [lsets_pre, way_sel, found_due]
  intro l hl
  unfold foundX at hl
  obtain ⟨k, _, rfl⟩ := List.mem_map.mp hl
  exact apart_of fun z hz => (List.mem_filter.mp (chosW_sub hz)).1
/-! ### one of them -/
theorem own_eq {cs : List String} {d : Bool} {x : List String} (hx : lways.filter (fun z => x.contains z) = x) : crules.filter (fun z => (lacksF cs d ++ x).contains z) = lacksF cs d ++ x := by
  have ec : crules = srules ++ (lways ++ ["entries"]) := rfl
  have xs : ∀ z ∈ x, z ∈ lways := fun z hz => by rw [← hx] at hz; exact (List.mem_filter.mp hz).1
  rw [ec, List.filter_append, List.filter_append]
  have h1 : srules.filter (fun z => (lacksF cs d ++ x).contains z) = lacksF cs d := by
    have e1 : lacksF cs d = srules.filter fun z => (!cs.contains z) && (d || !(z == "written")) := by unfold lacksF stateF; rw [List.filter_filter]
    have e2 : srules.filter (fun z => (lacksF cs d ++ x).contains z) = srules.filter fun z => (lacksF cs d).contains z := by
      refine List.filter_congr fun z hz => ?_
      rw [Bool.eq_iff_iff, List.contains_iff_mem, List.contains_iff_mem, List.mem_append]
      refine ⟨fun h => h.resolve_right fun hx' => ?_, .inl⟩
      have h2 := xs z hx'
      have h3 : srules.all (fun z => !lways.contains z) = true := by decide +kernel
      have := List.all_eq_true.mp h3 z hz
      simp [h2] at this
    rw [e2, e1]
    exact filter_own
  have h2 : lways.filter (fun z => (lacksF cs d ++ x).contains z) = x := by
    have : lways.filter (fun z => (lacksF cs d ++ x).contains z) = lways.filter fun z => x.contains z := by
      refine List.filter_congr fun z hz => ?_
      rw [Bool.eq_iff_iff, List.contains_iff_mem, List.contains_iff_mem, List.mem_append]
      exact ⟨fun h => h.resolve_left (not_lack hz), .inr⟩
    rw [this, hx]
  have h3 : ["entries"].filter (fun z => (lacksF cs d ++ x).contains z) = [] := by
    rw [List.filter_eq_nil_iff]
    intro z hz hm
    have hz : z = "entries" := by simpa using hz
    subst hz
    rw [List.contains_iff_mem, List.mem_append] at hm
    rcases hm with h | h
    · have h4 := (List.mem_filter.mp h).1
      have h5 : ∀ d, (stateF d).contains "entries" = false := by decide +kernel
      have := h5 d
      simp [h4] at this
    · have h5 : lways.contains "entries" = false := by decide +kernel
      have := xs _ h
      simp [this] at h5
  rw [h1, h2, h3, List.append_nil]
theorem one_goodN {cs : List String} {d : Bool} {x : List String} (hx : lways.filter (fun z => x.contains z) = x) : goodN crules (lacksF cs d ++ x) = true := by
  rw [← own_eq (cs := cs) (d := d) hx]
  exact good_filter ok1 _
/-- a union, and what it lacks -/
theorem union0 (a b d : Bool) (cs ys : List String) : ((missB a b (crules.filter fun z => cs.contains z || ys.contains z) d).length == 0) = (((stateF d).all fun z => cs.contains z || ys.contains z) && (!(a && !(["flush_values", "tell_values"].any fun z => cs.contains z || ys.contains z)) && !(b && !(["drain_stores", "tell_stores"].any fun z => cs.contains z || ys.contains z)))) := by
  rw [miss0]
  have hc : ∀ z ∈ crules, (crules.filter fun z => cs.contains z || ys.contains z).contains z = (cs.contains z || ys.contains z) := fun z hz => by
    rw [Bool.eq_iff_iff, List.contains_iff_mem, List.mem_filter]
    exact ⟨fun h => h.2, fun h => ⟨hz, h⟩⟩
  have wc : ∀ z ∈ lways, z ∈ crules := fun z hz => by simpa using List.all_eq_true.mp ways_c z hz
  rw [any2 _ (fun z => cs.contains z || ys.contains z) _ _ (hc _ (wc _ fw)) (hc _ (wc _ tw)), any2 _ (fun z => cs.contains z || ys.contains z) _ _ (hc _ (wc _ dw)) (hc _ (wc _ sw))]
  congr 1
  rw [Bool.eq_iff_iff, List.all_eq_true, List.all_eq_true]
  have sc : ∀ z ∈ stateF d, z ∈ crules := fun z hz => by simpa using List.all_eq_true.mp (state_c d) z hz
  exact ⟨fun h z hz => by rw [← hc z (sc z hz)]; exact h z hz, fun h z hz => by rw [hc z (sc z hz)]; exact h z hz⟩
theorem or_way {cs y : List String} {d : Bool} {z : String} (h : z ∈ lways) : (cs.contains z || (lacksF cs d ++ y).contains z) = (!(wayF cs).contains z || y.contains z) := by
  rw [← cont_way (d := d) h, List.append_assoc, Bool.eq_iff_iff, Bool.or_eq_true, List.contains_iff_mem, List.contains_iff_mem, List.contains_iff_mem]
  simp only [List.mem_append]
theorem one_whole {a b d : Bool} {cs x : List String} (h : okX a b (wayF cs) x = true) : ((missB a b (crules.filter fun z => cs.contains z || (lacksF cs d ++ x).contains z) d).length == 0) = true := by
  rw [union0, any2 _ (fun z => !(wayF cs).contains z || x.contains z) "flush_values" "tell_values" (or_way fw) (or_way tw), any2 _ (fun z => !(wayF cs).contains z || x.contains z) "drain_stores" "tell_stores" (or_way dw) (or_way sw)]
  have h1 : ((stateF d).all fun z => cs.contains z || (lacksF cs d ++ x).contains z) = true := by
    rw [List.all_eq_true]
    intro z hz
    by_cases hc : z ∈ cs
    · simp [hc]
    · have : z ∈ lacksF cs d := List.mem_filter.mpr ⟨hz, by simpa using hc⟩
      simp [this]
  rw [h1, Bool.true_and]
  exact h
theorem one_less {a b d : Bool} {cs x : List String} {n : String} (hx : ∀ z ∈ x, z ∈ lways) (h : x.all (fun z => !okX a b (wayF cs) (x.filter fun y => !(y == z))) = true) (hn : n ∈ lacksF cs d ++ x) :
    ((missB a b (crules.filter fun z => cs.contains z || ((lacksF cs d ++ x).filter fun y => !(y == n)).contains z) d).length == 0) = false := by
  rw [union0]
  rcases List.mem_append.mp hn with hl | hl
  · have h1 : ((stateF d).all fun z => cs.contains z || ((lacksF cs d ++ x).filter fun y => !(y == n)).contains z) = false := by
      rw [List.all_eq_false]
      obtain ⟨g1, g2⟩ := List.mem_filter.mp hl
      refine ⟨n, g1, ?_⟩
      have g3 : cs.contains n = false := by simpa using g2
      rw [g3, Bool.false_or, List.contains_iff_mem]
      intro hm
      have := (List.mem_filter.mp hm).2
      simp at this
    rw [h1, Bool.false_and]
  · have hf : (lacksF cs d ++ x).filter (fun y => !(y == n)) = lacksF cs d ++ x.filter fun y => !(y == n) := by
      rw [List.filter_append]
      congr 1
      rw [List.filter_eq_self]
      intro z hz
      have : z ≠ n := fun e => by subst e; exact not_lack (hx _ hl) hz
      simp [this]
    rw [hf, any2 _ (fun z => !(wayF cs).contains z || (x.filter fun y => !(y == n)).contains z) "flush_values" "tell_values" (or_way fw) (or_way tw), any2 _ (fun z => !(wayF cs).contains z || (x.filter fun y => !(y == n)).contains z) "drain_stores" "tell_stores" (or_way dw) (or_way sw)]
    have := List.all_eq_true.mp h n hl
    have h2 : okX a b (wayF cs) (x.filter fun y => !(y == n)) = false := by simpa using this
    unfold okX at h2
    rw [h2, Bool.and_false]
end G.k48
set_option Elab.async false
set_option linter.all false
set_option maxRecDepth 100000
set_option maxHeartbeats 4000000
namespace G.k48
open PySem G
def S_lreps (args : List LV) (L : LH) : R LV := match args with
  | [.fl xs, .fl ys, .bl d] => match unS xs, unS ys with
    | some cs, some ps => if cs.length ≤ 900 then .ok (.fl (tNs (repF cs ps d))) L else .stuck
    | _, _ => .stuck
  | _ => .stuck
theorem S_lreps_eq {cs ps : List String} {d : Bool} {L : LH} (h : cs.length ≤ 900) : S_lreps [.fl (strL cs), .fl (strL ps), .bl d] L = .ok (.fl (tNs (repF cs ps d))) L := by simp [S_lreps, h]
def foundT (a b : Bool) (cs : List String) (d : Bool) (n : Nat) : List (List String) := pre (lacksF cs d) (((List.range n).filter fun k => okX a b (wayF cs) (chosW (wayF cs) k)).map (chosW (wayF cs)))
theorem foundT_succ (a b : Bool) (cs : List String) (d : Bool) (n : Nat) : foundT a b cs d (n + 1) = if okX a b (wayF cs) (chosW (wayF cs) n) = true then foundT a b cs d n ++ [lacksF cs d ++ chosW (wayF cs) n] else foundT a b cs d n := by
  unfold foundT
  rw [List.range_succ, List.filter_append, List.map_append]
  cases h : okX a b (wayF cs) (chosW (wayF cs) n) <;> simp [h, pre]
theorem foundT_zero (a b : Bool) (cs : List String) (d : Bool) : foundT a b cs d 0 = [] := by simp [foundT, pre]
theorem foundT_len (a b : Bool) (cs : List String) (d : Bool) (n : Nat) : (foundT a b cs d n).length ≤ n := by
  unfold foundT
  rw [pre_len, List.length_map]
  exact Nat.le_trans (List.length_filter_le _ _) (by simp)
theorem lacks_len (cs : List String) (d : Bool) : (lacksF cs d).length ≤ 13 := Nat.le_trans (List.length_filter_le _ _) (stateF_len d)
theorem way_len (cs : List String) : (wayF cs).length ≤ 4 := Nat.le_trans (List.length_filter_le _ _) (by decide)
theorem chosW_len (ws : List String) (k : Nat) : (chosW ws k).length ≤ ws.length := List.length_filter_le _ _
theorem foundT_all (a b : Bool) (cs : List String) (d : Bool) (n : Nat) : (foundT a b cs d n).all (fun w => decide (w.length ≤ 1000)) = true := by
  rw [List.all_eq_true]
  intro w hw
  unfold foundT pre at hw
  rw [List.map_map] at hw
  obtain ⟨k, _, rfl⟩ := List.mem_map.mp hw
  have h1 := lacks_len cs d
  have h2 := way_len cs
  have h3 := chosW_len (wayF cs) k
  refine decide_eq_true ?_
  show (lacksF cs d ++ chosW (wayF cs) k).length ≤ 1000
  rw [List.length_append]
  omega
theorem SWp_asg {T : Tbl} {C : Orc} {N B K : SP} {R' : LV → LH → Prop} {s : Sl} {L L1 : LH} {i : Nat} {e : Ex} {r : List Sm} {v : LV} (h : evE T C e s L = .ok v L1) (h2 : i < s.length) (k : SWp (evSs T C r (s.set i (some v)) L1) N B K R') : SWp (evSs T C (.asg (.nm i) e :: r) s L) N B K R' := by
  rw [evSs_cons, evS_asg, h, R.bind_ok, evG_nm, if_pos h2, R.toS_ok, SR.bind_nx]
  exact k
theorem SWp_body_nm {T : Tbl} {C : Orc} {N B K : SP} {R' : LV → LH → Prop} {s : Sl} {L : LH} {i : Nat} {b : List Sm} {x : LV} (h : i < s.length) (k : SWp (evSs T C b (s.set i (some x)) L) N B K R') : SWp (bodyF T C (.nm i) b x s L) N B K R' := by
  refine SWp_body ?_
  rw [evG_nm, if_pos h, RWp_ok]
  exact k
theorem SWp_for {T : Tbl} {C : Orc} {N B K : SP} {R' : LV → LH → Prop} {s : Sl} {L L1 : LH} {t : Tg} {it : It} {b : List Sm} {xs : List LV} {c : Option (Nat × List LV)} (h : evI T C it s L = .ok (xs, c) L1) (k : SWp (forL (bodyF T C t b) c xs s L1) N B K R') : SWp (evS T C (.for t it b) s L) N B K R' := by
  rw [evS_for, h, SWp_toS, RWp_ok]
  exact k
theorem rng_len {T : Tbl} {C : Orc} {s : Sl} {L : LH} {wf : List String} (h4 : sget s 4 = some (.fl (strL wf))) (hl : wf.length ≤ 4) : evI T C (.rng [.blt "len" [.var 4]]) s L = .ok ((List.range wf.length).map fun (k : Nat) => LV.int (0 + k), none) L := by
  have e1 : evEs T C [.var 4] s L = .ok [.fl (strL wf)] L := by rw [evEs_cons, evE_var, h4, R.of_some, R.bind_ok, evEs_nil, R.bind_ok]
  have e2 : bltV "len" [.fl (strL wf)] L = .ok (.int wf.length) L := len_flS wf
  have e3 : evE T C (.blt "len" [.var 4]) s L = .ok (.int wf.length) L := by rw [evE_blt, e1, R.bind_ok]; exact e2
  have e4 : evEs T C [.blt "len" [.var 4]] s L = .ok [.int wf.length] L := by rw [evEs_cons, e3, R.bind_ok, evEs_nil, R.bind_ok]
  rw [evI_rng, e4, R.bind_ok]
  exact rng_ok (by omega)
theorem for_ix {T : Tbl} {C : Orc} {s : Sl} {L L1 : LH} {t : Tg} {it : It} {b rest : List Sm} {xs : List LV} {c : Option (Nat × List LV)} {P : LV → LH → Prop} (I : Nat → SP) (hi : evI T C it s L = .ok (xs, c) L1) (hc : ∀ j s L, I j s L → chkOk c L = true) (h0 : I 0 s L1)
    (step : ∀ i x, xs[i]? = some x → ∀ s L, I i s L → SWp (bodyF T C t b x s L) (I (i + 1)) (I xs.length) (I (i + 1)) P) (ex : ∀ s L, I xs.length s L → SWp (evSs T C rest s L) No No No P) : SWp (evSs T C (.for t it b :: rest) s L) No No No P :=
  SWp_cons (SWp_for hi ((forL_ix I hc step h0).mono ex (fun _ _ h => h) (fun _ _ h => h) (fun _ _ h => h)))
/-- a run that the elaborator does not look into -/
structure SWs (r : SR) (N B K : SP) (R' : LV → LH → Prop) : Prop where
  run : SWp r N B K R'
theorem SWs_asg {T : Tbl} {C : Orc} {N B K : SP} {R' : LV → LH → Prop} {s : Sl} {L L1 : LH} {i : Nat} {e : Ex} {r : List Sm} {v : LV} (h : evE T C e s L = .ok v L1) (h2 : i < s.length) (k : SWs (evSs T C r (s.set i (some v)) L1) N B K R') : SWs (evSs T C (.asg (.nm i) e :: r) s L) N B K R' :=
  ⟨SWp_asg h h2 k.run⟩
theorem SWs_body {T : Tbl} {C : Orc} {N B K : SP} {R' : LV → LH → Prop} {s : Sl} {L : LH} {i : Nat} {b : List Sm} {x : LV} (h : i < s.length) (k : SWs (evSs T C b (s.set i (some x)) L) N B K R') : SWs (bodyF T C (.nm i) b x s L) N B K R' := ⟨SWp_body_nm h k.run⟩
theorem for_ixs {T : Tbl} {C : Orc} {s : Sl} {L L1 : LH} {t : Tg} {it : It} {b rest : List Sm} {xs : List LV} {c : Option (Nat × List LV)} {P : LV → LH → Prop} (I : Nat → SP) (hi : evI T C it s L = .ok (xs, c) L1) (hc : ∀ j s L, I j s L → chkOk c L = true) (h0 : I 0 s L1)
    (step : ∀ i x, xs[i]? = some x → ∀ s L, I i s L → SWs (bodyF T C t b x s L) (I (i + 1)) (I xs.length) (I (i + 1)) P) (ex : ∀ s L, I xs.length s L → SWp (evSs T C rest s L) No No No P) : SWs (evSs T C (.for t it b :: rest) s L) No No No P :=
  ⟨for_ix I hi hc h0 (fun i x hx s L h => (step i x hx s L h).run) ex⟩
theorem lreps_head {T : Tbl} {C : Orc} {L : LH} {cs ps wf : List String} {d : Bool} {rest : List Sm} {P : LV → LH → Prop} (h1 : C "_law_carry_rules" = S_list crules) (F5 : lways.filter (fun z => !cs.contains z) = wf)
    (k : SWs (evSs T C rest [some (.fl (strL cs)), some (.fl (strL ps)), some (.bl d), some (.fl (strL (lacksF cs d))), some (.fl (strL wf)), some (.ref L.length), none, none, none, none] (L ++ [.lst []])) No No No P) :
    SWp (evSs T C (.asg (.nm 3) (.frz (.cpr (.var 8) (.nm 8) (.of (.frz (.slc (.call "_law_carry_rules" [] []) none (some (.con (.int 13)))))) (some (.and (.cmp .nin (.var 8) (.var 0)) (.or (.var 2) (.cmp .ne (.var 8) (.con (.str "written")))))) [8])) ::
      .asg (.nm 4) (.frz (.cpr (.var 8) (.nm 8) (.of (.frz (.slc (.call "_law_carry_rules" [] []) (some (.con (.int 13))) (some (.con (.int 17)))))) (some (.cmp .nin (.var 8) (.var 0))) [8])) ::
      .asg (.nm 5) (.lst []) :: rest) [some (.fl (strL cs)), some (.fl (strL ps)), some (.bl d), none, none, none, none, none, none, none] L) No No No P := by
          refine SWp_cons ?_
          have hf : ∀ L : LH, fzV L (.ref L.length) (L ++ [.lst (strL srules)]) = .ok (.fl (strL srules)) L := fun L => fzV_lst (by simp)
          have h13 : cutL crules none (some 13) = srules := by decide +kernel
          have ec := flt (T := T) (C := C) (L := L) (i := 8) (src := .of (.frz (.slc (.call "_law_carry_rules" [] []) none (some (.con (.int 13)))))) (cond := .and (.cmp .nin (.var 8) (.var 0)) (.or (.var 2) (.cmp .ne (.var 8) (.con (.str "written"))))) (s := [some (.fl (strL cs)), some (.fl (strL ps)), some (.bl d), none, none, none, none, none, none, none]) (ns := srules)
            (fun z => !cs.contains z && (d || !(z == "written"))) (by simp) (by simp only [evI_of, evE_frz, evE_slc, evE_call, evEs_nil, R.bind_ok, h1, S_list_eq, List.append_nil, evO_none, evO_some, evE_con, slcV_fl, cut_strL, h13, hf, itV]) (fun z hz L' => by
              simp only [evE_and, evE_or, evE_cmp, evE_con, evE_var, sget, List.set_cons_succ, List.set_cons_zero, List.getElem?_cons_succ, List.getElem?_cons_zero, R.of_some, R.bind_ok, cmpO_fl, cmpO_str, nin_fl, ne_str, Option.map_some, asB_bl]
              cases cs.contains z <;> cases d <;> cases (z == "written") <;> rfl) (by decide)
          have es : srules.filter (fun z => !cs.contains z && (d || !(z == "written"))) = lacksF cs d := by unfold lacksF stateF; rw [List.filter_filter]
          rw [es] at ec
          rw [evS_asg, ec]
          simp only [R.bind_ok, evG_nm, List.length_cons, List.length_nil, List.set_cons_succ, List.set_cons_zero, Nat.reduceAdd, Nat.reduceLT, if_true, R.toS_ok, SWp_nx]
          have h17 : cutL crules (some 13) (some 17) = lways := by decide +kernel
          have ew := flt (T := T) (C := C) (L := L) (i := 8) (src := .of (.frz (.slc (.call "_law_carry_rules" [] []) (some (.con (.int 13))) (some (.con (.int 17)))))) (cond := .cmp .nin (.var 8) (.var 0)) (s := [some (.fl (strL cs)), some (.fl (strL ps)), some (.bl d), some (.fl (strL (lacksF cs d))), none, none, none, none, none, none]) (ns := lways)
            (fun z => !cs.contains z) (by simp) (by simp only [evI_of, evE_frz, evE_slc, evE_call, evEs_nil, R.bind_ok, h1, S_list_eq, List.append_nil, evO_some, evE_con, slcV_fl, cut_strL, h17, fz_strs, itV]) (fun z hz L' => by
              simp only [evE_cmp, evE_var, sget, List.set_cons_succ, List.set_cons_zero, List.getElem?_cons_succ, List.getElem?_cons_zero, R.of_some, R.bind_ok, cmpO_fl, nin_fl, Option.map_some]) (by rw [show lways.length = 4 from rfl, big_val]; omega)
          rw [F5] at ew
          refine SWp_asg ew (by simp) ?_
          simp only [List.set_cons_succ, List.set_cons_zero]
          refine SWp_cons ?_
          simp only [evS_asg, evE_lst, evEs_nil, R.bind_ok, List.length_nil, big_val, Nat.zero_le, if_true, evG_nm, List.length_cons, List.set_cons_succ, List.set_cons_zero, Nat.reduceAdd, Nat.reduceLT, R.toS_ok, SWp_nx]
          exact k.run
def lrI (cs ps wf : List String) (d : Bool) (L : LH) (i : Nat) : SP := fun s L' => (∃ y6 y7 y8 y9, s = [some (.fl (strL cs)), some (.fl (strL ps)), some (.bl d), some (.fl (strL (lacksF cs d))), some (.fl (strL wf)), some (.ref L.length), y6, y7, y8, y9]) ∧ L' = L ++ [.lst (tNs (foundT (defF ps) (bufF ps) cs d i))]
theorem m_lreps {T C} (h1 : C "_law_carry_rules" = S_list crules) (h2 : C "_law_missing" = S_lmiss) (h3 : C "_law_sets" = S_lsets) : Meets (evF T C f__law_repairs) S_lreps := by
  intro args L r2 L2 hL ha h
  unfold S_lreps at h
  split at h
  · rename_i xs ys d
    split at h
    · rename_i cs ps e1 e2
      split at h
      · rename_i hcl
        cases h
        have e1 := of_unS e1
        have e2 := of_unS e2
        subst e1 e2
        have sl := lacks_len cs d
        have wyl := way_len cs
        have F1 := fun q => foundT_succ (defF ps) (bufF ps) cs d q
        have F2 := fun q => miss_okX (defF ps) (bufF ps) d cs (chosW (wayF cs) q)
        have F4 : (wayF cs).Nodup := nd_ways.sublist List.filter_sublist
        have F5 : lways.filter (fun z => !cs.contains z) = wayF cs := rfl
        generalize wayF cs = wf at wyl F1 F2 F4 F5
        have go : SWp (evSs T C f__law_repairs.body [some (.fl (strL cs)), some (.fl (strL ps)), some (.bl d), none, none, none, none, none, none, none] L) No No No fun v L' => v = .fl (tNs (repF cs ps d)) ∧ ∃ G, L' = L ++ G := by
          simp only [f__law_repairs]
          refine lreps_head h1 F5 ?_
          have hrg := fun L' => rng_ok (n := 16) (L' := L') (by decide)
          simp only [Int.cast_ofNat_Int] at hrg
          have hI : ∀ (s : Sl) (L' : LH), evI T C (.rng [.con (.int 16)]) s L' = .ok ((List.range 16).map fun (k : Nat) => LV.int (0 + k), none) L' := fun s L' => by
            simp only [evI_rng, evEs_cons, evEs_nil, evE_con, R.bind_ok, hrg]
          have hx1 := hI [some (.fl (strL cs)), some (.fl (strL ps)), some (.bl d), some (.fl (strL (lacksF cs d))), some (.fl (strL wf)), some (.ref L.length), none, none, none, none] (L ++ [LO.lst []])
          refine for_ixs (lrI cs ps wf d L) hx1 ?_ ?_ ?_ ?_
          · exact fun _ _ _ _ => rfl
          · exact ⟨⟨none, none, none, none, rfl⟩, by rw [foundT_zero, tNs_nil]⟩
          · rintro i x hx s L' ⟨⟨y6, y7, y8, y9, rfl⟩, hL'⟩
            subst L'
            rw [List.getElem?_map] at hx
            obtain ⟨q, hq, rfl⟩ := Option.map_eq_some_iff.mp hx
            have hq' : q = i ∧ i < 16 := by
              obtain ⟨hi, hv⟩ := List.getElem?_eq_some_iff.mp hq
              rw [List.getElem_range] at hv
              exact ⟨hv.symm, by simpa using hi⟩
            obtain ⟨rfl, hq16⟩ := hq'
            have wl := foundT_len (defF ps) (bufF ps) cs d q
            unfold lrI
            rw [F1 q]
            generalize foundT (defF ps) (bufF ps) cs d q = wh at wl
            refine SWs_body (by simp) ?_
            simp only [List.set_cons_succ, List.set_cons_zero]
            have h4 : ∀ L : LH, fzV L (.ref L.length) (L ++ [.lst [.int 1, .int 2, .int 4, .int 8]]) = .ok (.fl [.int 1, .int 2, .int 4, .int 8]) L := fun L => fzV_lst (by simp [clVs, clV])
            have hr4 := fun L' => rng_ok (n := wf.length) (L' := L') (by omega)
            have nd := F4
            have hm : missF ((cs ++ lacksF cs d) ++ chosW wf q) ps d = missB (defF ps) (bufF ps) ((cs ++ lacksF cs d) ++ chosW wf q) d := rfl
            have hok := F2 q
            have cl := chosW_len wf q
            have ecd : wf.filter (fun z => decide ((((q : Nat) : Int) / [1, 2, 4, 8].getD (wf.idxOf z) 1) % 2 = 1)) = chosW wf q := rfl
            have ec := frz_rules (T := T) (C := C) (L := L ++ [LO.lst (tNs wh)]) (elt := .idx (.var 4) (.var 9)) (tg := .nm 9) (src := .rng [.blt "len" [.var 4]]) (cond := some (.cmp .eq (.bin .mod (.blt "int" [.bin .fdv (.var 6) (.idx (.frz (.lst [.con (.int 1), .con (.int 2), .con (.int 4), .con (.int 8)])) (.var 9))]) (.con (.int 2))) (.con (.int 1)))) (own := [9])
              (s := [some (.fl (strL cs)), some (.fl (strL ps)), some (.bl d), some (.fl (strL (lacksF cs d))), some (.fl (strL wf)), some (.ref L.length), some (.int (0 + q)), y7, y8, y9]) (known := wf) nd (by omega) (fun j => decide ((((q : Nat) : Int) / [1, 2, 4, 8].getD j 1) % 2 = 1)) (rng_len (by simp [sget]) wyl) (fun k hk L9 => by
                have hk4 : k < 4 := by omega
                have hk2 := idx_strL (L := L9) hk
                have hk0 : (0 : Int) + (q : Int) = q := by omega
                have i4 : idxV (.fl [.int 1, .int 2, .int 4, .int 8]) (.int k) L9 = some (.int ([1, 2, 4, 8].getD k 1)) ∧ (0 : Int) < [1, 2, 4, 8].getD k 1 ∧ ([1, 2, 4, 8].getD k 1 : Int) < 1073741824 := by
                  have : k = 0 ∨ k = 1 ∨ k = 2 ∨ k = 3 := by omega
                  rcases this with rfl | rfl | rfl | rfl <;> exact ⟨rfl, by decide, by decide⟩
                obtain ⟨i4, i5, i6⟩ := i4
                generalize ([1, 2, 4, 8].getD k 1 : Int) = dv at i4 i5 i6
                simp only [cprB, wipeL, evG_nm, List.length_cons, List.length_nil, List.set_cons_succ, List.set_cons_zero, Nat.reduceAdd, Nat.reduceLT, if_true, R.bind_ok, evC_some, evE_cmp, evE_bin, evE_blt, evE_idx, evE_frz, evE_lst, evEs_cons, evEs_nil, evE_var, evE_con, sget, List.getElem?_cons_succ, List.getElem?_cons_zero, R.of_some, big_val, Nat.reduceLeDiff, h4, i4, binO_int, binV, i5, i6, and_self, bltV, intV, Int.reduceLT, cmpO_int, eq_int, Option.map_some, asB_bl, hk0, hk2]
                have hb : (((q : Int) / dv % 2) == 1) = decide ((q : Int) / dv % 2 = 1) := by rw [Bool.eq_iff_iff]; simp
                rw [hb]
                rw [List.getElem?_eq_getElem hk]
                cases decide ((q : Int) / dv % 2 = 1) <;> rfl)
            rw [ecd] at ec
            refine SWs_asg ec (by simp) (SWs.mk ?_)
            simp only [List.set_cons_succ, List.set_cons_zero]
            have ea1 := fun L9 => add_fz (C := C) (L := L9) cs (lacksF cs d) (by omega)
            have ea2 := fun L9 => add_fz (C := C) (L := L9) (cs ++ lacksF cs d) (chosW wf q) (by rw [List.length_append]; omega)
            have ea := fun L9 => add_fz (C := C) (L := L9) (lacksF cs d) (chosW wf q) (by omega)
            refine SWp_cons ?_
            simp only [evS_ite', evE_cmp, evE_blt, evE_call, evE_frz, evE_bin, evEs_cons, evEs_nil, evE_var, evE_con, sget, List.getElem?_cons_succ, List.getElem?_cons_zero, R.of_some, R.bind_ok, ea1, ea2, List.append_nil, h2, S_lmiss_eq, hm, bltV, len_flS, cmpO_int, eq_int, Option.map_some, asB_bl, R.toS_ok]
            rw [show ((((missB (defF ps) (bufF ps) ((cs ++ lacksF cs d) ++ chosW wf q) d).length : Nat) : Int) == 0) = okX (defF ps) (bufF ps) wf (chosW wf q) from (beq_nat _ 0).trans hok]
            cases okX (defF ps) (bufF ps) wf (chosW wf q) with
            | false =>
              simp only [Bool.false_eq_true, if_false, evSs_nil, SWp_nx]
              exact ⟨⟨_, _, _, _, rfl⟩, by trivial⟩
            | true =>
              simp only [if_true]
              refine SWp_cons ?_
              have et : ∀ L9 : LH, tupV [.fl (strL (lacksF cs d ++ chosW wf q))] L9 = .ok (tN (lacksF cs d ++ chosW wf q)) L9 := fun L9 => by
                simp only [tupV, seqAt, strL_len, List.length_append, tN]
                try rw [if_pos (by simp only [big_val]; omega)]
              simp only [evS_exp, evE_mth, evE_var, evE_blt, evE_frz, evE_bin, evEs_cons, evEs_nil, sget, List.getElem?_cons_succ, List.getElem?_cons_zero, R.of_some, R.bind_ok, mthV_last, ea, bltV, et, app_lst (show (tNs wh).length < 1000 by simp; omega), R.toS_ok, SWp_nx, evSs_nil]
              exact ⟨⟨_, _, _, _, rfl⟩, by rw [tNs_app]; rfl⟩
          · rintro s L' ⟨⟨y6, y7, y8, y9, rfl⟩, hL'⟩
            subst L'
            refine SWp_cons ?_
            have ew : foundT (defF ps) (bufF ps) cs d ((List.range 16).map fun (k : Nat) => LV.int (0 + k)).length = pre (lacksF cs d) (foundX (defF ps) (bufF ps) (wayF cs)) := by
              rw [List.length_map, List.length_range]; rfl
            have fl := foundT_len (defF ps) (bufF ps) cs d ((List.range 16).map fun (k : Nat) => LV.int (0 + k)).length
            have fa := foundT_all (defF ps) (bufF ps) cs d ((List.range 16).map fun (k : Nat) => LV.int (0 + k)).length
            rw [ew] at fl fa ⊢
            have hS : S_lsets [.ref L.length] (L ++ [.lst (tNs (pre (lacksF cs d) (foundX (defF ps) (bufF ps) (wayF cs))))]) = .ok (.fl (tNs (repF cs ps d))) (L ++ [.lst (tNs (pre (lacksF cs d) (foundX (defF ps) (bufF ps) (wayF cs))))]) := by
              simp only [S_lsets, get_last, unT_tNs]
              rw [if_pos ⟨by simp only [List.length_map, List.length_range] at fl; omega, fa⟩, found_pre, rep_pre]
            simp only [evS_ret, evE_call, evEs_cons, evEs_nil, evE_var, sget, List.getElem?_cons_succ, List.getElem?_cons_zero, R.of_some, R.bind_ok, List.append_nil, h3, hS, R.toS_ok, SWp_rt]
            exact ⟨by trivial, _, rfl⟩
        obtain ⟨v, L1, e, q1, G, q2⟩ := (RWp_evF (f := f__law_repairs) (vs := [.fl (strL cs), .fl (strL ps), .bl d]) rfl (go.mono (fun _ _ h => h.elim) (fun _ _ h => h) (fun _ _ h => h) fun _ _ h => h)).ex
        subst q1 q2
        exact ⟨_, _, e, Sim.drop hL (by simp [clV])⟩
      · cases h
    · cases h
  · cases h
end G.k48
set_option Elab.async false
set_option linter.all false
set_option maxRecDepth 100000
set_option maxHeartbeats 4000000
namespace G.k48
open PySem G
def lessF (cs : List String) (z : String) : List String := cs.filter fun y => !([z].contains y)
def spareF (cs ps : List String) (d : Bool) : List String := if ((missF cs ps d).length == 0) = true then cs.filter fun z => (missF (lessF cs z) ps d).length == 0 else []
def S_spare (args : List LV) (L : LH) : R LV := match args with
  | [.ob "Carry" ["names"] [.tup xs], .ob "Policy" ["names"] [.tup ks], .bl d] => match unS xs, unS ks with
    | some cs, some ps => if goodN crules cs = true then .ok (tN (spareF cs ps d)) L else .stuck
    | _, _ => .stuck
  | _ => .stuck
theorem S_spare_eq {cs ps : List String} {d : Bool} {L : LH} (h : goodN crules cs = true) : S_spare [obN "Carry" cs, obN "Policy" ps, .bl d] L = .ok (tN (spareF cs ps d)) L := by simp [S_spare, obN, h]
theorem one_good : crules.all (fun z => goodN crules [z]) = true := by decide +kernel
theorem m_spare {T C} (hC : C "Carry.__init__" = S_init crules) (hw : C "is_whole" = S_isw) (hsub : C "Carry.__sub__" = S_sub "Carry" crules) : Meets (evF T C f_spare_rules) S_spare := by
  intro args L r2 L2 hL ha h
  unfold S_spare at h
  split at h
  · rename_i xs ks d
    split at h
    · rename_i cs ps e1 e2
      split at h
      · rename_i hg
        cases h
        have e1 := of_unS e1
        have e2 := of_unS e2
        subst e1 e2
        obtain ⟨w4, w5⟩ := goodN_iff.mp hg
        have hcl := okN_len w4
        have go : SWp (evSs T C f_spare_rules.body [some (obN "Carry" cs), some (obN "Policy" ps), some (.bl d), none, none] L) No No No fun v L' => v = tN (spareF cs ps d) ∧ ∃ G, L' = L ++ G := by
          simp only [f_spare_rules]
          refine SWp_cons ?_
          have z0 : ∀ n : Nat, ((n : Int) == 0) = (n == 0) := fun n => beq_nat n 0
          simp only [evS_ite', evE_not, evE_calk, evEs_cons, evEs_nil, evE_var, sget, List.getElem?_cons_succ, List.getElem?_cons_zero, R.of_some, R.bind_ok, List.append_nil, List.cons_append, List.nil_append, hw, S_isw_eq, z0, asB_bl, R.toS_ok]
          unfold spareF
          cases ((missF cs ps d).length == 0) with
          | false =>
            simp only [Bool.not_false, if_true, Bool.false_eq_true, if_false]
            refine SWp_cons ?_
            simp only [evS_ret, evE_tup, evEs_nil, R.bind_ok, List.length_nil, big_val, Nat.zero_le, if_true, R.toS_ok, SWp_rt]
            exact ⟨rfl, [], by simp⟩
          | true =>
            simp only [Bool.not_true, Bool.false_eq_true, if_false, if_true, evSs_nil, SWp_nx]
            refine SWp_cons ?_
            simp only [evS_asg, evE_lst, evEs_nil, R.bind_ok, List.length_nil, big_val, Nat.zero_le, if_true, evG_nm, List.length_cons, List.set_cons_succ, List.set_cons_zero, Nat.reduceAdd, Nat.reduceLT, R.toS_ok, SWp_nx]
            refine SWp_cons ?_
            simp only [evS_for, evI_of, evE_fld, evE_var, sget, List.getElem?_cons_succ, List.getElem?_cons_zero, R.of_some, R.bind_ok, fld_obN, itV, SWp_toS, RWp_ok]
            refine (forL_ix (fun i s L' => (∃ y4, s = [some (obN "Carry" cs), some (obN "Policy" ps), some (.bl d), some (.ref L.length), y4]) ∧ L' = L ++ [.lst (strL ((cs.take i).filter fun z => (missF (lessF cs z) ps d).length == 0))]) (fun _ _ _ _ => rfl) ?_ ⟨⟨_, rfl⟩, rfl⟩).mono ?_ (fun _ _ h => h) (fun _ _ h => h) (fun _ _ h => h)
            · rintro i x hx s L' ⟨⟨y4, rfl⟩, hL'⟩
              subst L'
              rw [strL, List.getElem?_map] at hx
              obtain ⟨z, hz, rfl⟩ := Option.map_eq_some_iff.mp hx
              have hzw : z ∈ cs := List.mem_of_getElem? hz
              have hzc : z ∈ crules := by
                rw [← w5] at hzw
                exact (List.mem_filter.mp hzw).1
              obtain ⟨z1, z2⟩ := goodN_iff.mp (List.all_eq_true.mp one_good z hzc)
              have ht : cs.take (i + 1) = cs.take i ++ [z] := by rw [List.take_add_one, hz]; rfl
              rw [ht, List.filter_append]
              have hk : ((cs.take i).filter fun z => (missF (lessF cs z) ps d).length == 0).length < 1000 := by
                have h1 := List.length_filter_le (fun z => (missF (lessF cs z) ps d).length == 0) (cs.take i)
                rw [List.length_take] at h1
                omega
              generalize (cs.take i).filter (fun z => (missF (lessF cs z) ps d).length == 0) = acc at hk
              refine SWp_body_nm (by simp) ?_
              simp only [List.set_cons_succ, List.set_cons_zero]
              refine SWp_cons ?_
              generalize hLd : L ++ [LO.lst (strL acc)] = Ld
              have fs := fun L9 : LH => fz_strs [z] L9
              have s1 : strL [z] = [.str z] := rfl
              rw [s1] at fs
              have hn := frz_new (T := T) (C := C) (K := "Carry") (xs := [.frz (.lst [.var 4])]) (s := [some (obN "Carry" cs), some (obN "Policy" ps), some (.bl d), some (.ref L.length), some (.str z)]) (L := Ld) (v := .fl (strL [z])) (by
                simp only [evEs_cons, evEs_nil, evE_frz, evE_lst, evE_var, sget, List.getElem?_cons_succ, List.getElem?_cons_zero, R.of_some, R.bind_ok, List.length_cons, List.length_nil, big_val, Nat.reduceAdd, Nat.reduceLeDiff, if_true, fs, s1]) hC (namesOf_fl [z]) z1
              rw [z2] at hn
              have eb : ∀ L9, binO C .sub (obN "Carry" cs) (obN "Carry" [z]) L9 = .ok (obN "Carry" (lessF cs z)) L9 := fun L9 => by
                have := S_sub_eq (K := "Carry") (K1 := "Carry") (K2 := "Carry") (known := crules) (ns := cs) (ms := [z]) (L := L9) hg
                rw [← hsub] at this
                simp only [obN] at this ⊢
                show (if "Carry" = "Carry" then (match dunB .sub with | some m => (C ("Carry" ++ "." ++ m) [.ob "Carry" ["names"] [.tup (strL cs)], .ob "Carry" ["names"] [.tup (strL [z])]] L9).bind _ | none => R.stuck) else R.stuck) = _
                rw [if_pos rfl]
                show ((C "Carry.__sub__" [.ob "Carry" ["names"] [.tup (strL cs)], .ob "Carry" ["names"] [.tup (strL [z])]] L9).bind _) = _
                rw [this, R.bind_ok]
                rfl
              rw [evS_ite', evE_calk, evEs_cons, evE_bin, evE_var]
              simp only [sget, List.getElem?_cons_succ, List.getElem?_cons_zero, R.of_some, R.bind_ok]
              rw [hn]
              simp only [R.bind_ok, eb, evEs_cons, evEs_nil, evE_var, sget, List.getElem?_cons_succ, List.getElem?_cons_zero, R.of_some, R.bind_ok, List.append_nil, List.cons_append, List.nil_append, hw, S_isw_eq, z0, asB_bl, R.toS_ok, List.filter_cons, List.filter_nil]
              cases ((missF (lessF cs z) ps d).length == 0) with
              | false =>
                simp only [Bool.false_eq_true, if_false, evSs_nil, SWp_nx, List.append_nil]
                exact ⟨⟨_, rfl⟩, hLd.symm⟩
              | true =>
                simp only [if_true]
                subst hLd
                refine SWp_cons ?_
                simp only [evS_exp, evE_mth, evE_var, evEs_cons, evEs_nil, sget, List.getElem?_cons_succ, List.getElem?_cons_zero, R.of_some, R.bind_ok, mthV_last, app_last hk, R.toS_ok, SWp_nx, evSs_nil]
                exact ⟨⟨_, rfl⟩, by trivial⟩
            · rintro s L' ⟨⟨y4, rfl⟩, hL'⟩
              subst L'
              rw [strL_len, List.take_length]
              have hk := List.length_filter_le (fun z => (missF (lessF cs z) ps d).length == 0) cs
              generalize cs.filter (fun z => (missF (lessF cs z) ps d).length == 0) = acc at hk
              refine SWp_cons ?_
              have et : tupV [.ref L.length] (L ++ [.lst (strL acc)]) = .ok (tN acc) (L ++ [.lst (strL acc)]) := by
                simp [tupV, seqAt, tN]
                try omega
              simp only [evS_ret, evE_blt, evEs_cons, evEs_nil, evE_var, sget, List.getElem?_cons_succ, List.getElem?_cons_zero, R.of_some, R.bind_ok, bltV, et, R.toS_ok, SWp_rt]
              exact ⟨by trivial, _, rfl⟩
        obtain ⟨v, L1, e, q1, G, q2⟩ := (RWp_evF (f := f_spare_rules) (vs := [obN "Carry" cs, obN "Policy" ps, .bl d]) rfl (go.mono (fun _ _ h => h.elim) (fun _ _ h => h) (fun _ _ h => h) fun _ _ h => h)).ex
        subst q1 q2
        exact ⟨_, _, e, Sim.drop hL (by simp)⟩
      · cases h
    · cases h
  · cases h
end G.k48
set_option Elab.async false
set_option linter.all false
set_option maxRecDepth 100000
set_option maxHeartbeats 4000000
namespace G.k48
open PySem G
def S_lspare (args : List LV) (L : LH) : R LV := match args with
  | [.fl xs, .fl ys, .bl d] => match unS xs, unS ys with
    | some cs, some ps => if cs.length ≤ 900 then .ok (tN (spareF cs ps d)) L else .stuck
    | _, _ => .stuck
  | _ => .stuck
theorem S_lspare_eq {cs ps : List String} {d : Bool} {L : LH} (h : cs.length ≤ 900) : S_lspare [.fl (strL cs), .fl (strL ps), .bl d] L = .ok (tN (spareF cs ps d)) L := by simp [S_lspare, h]
theorem less_ne (cs : List String) (z : String) : cs.filter (fun y => !(y == z)) = lessF cs z := by
  unfold lessF
  refine List.filter_congr fun y _ => ?_
  rw [Bool.eq_iff_iff]
  simp
theorem gt_int {L : LH} {a b : Int} : cmpV .gt (.int a) (.int b) L = some (decide (b < a)) := by simp [cmpV]
theorem m_lspare {T C} (h2 : C "_law_missing" = S_lmiss) : Meets (evF T C f__law_spare) S_lspare := by
  intro args L r2 L2 hL ha h
  unfold S_lspare at h
  split at h
  · rename_i xs ys d
    split at h
    · rename_i cs ps e1 e2
      split at h
      · rename_i hcl
        cases h
        have e1 := of_unS e1
        have e2 := of_unS e2
        subst e1 e2
        have go : SWp (evSs T C f__law_spare.body [some (.fl (strL cs)), some (.fl (strL ps)), some (.bl d), none, none, none] L) No No No fun v L' => v = tN (spareF cs ps d) ∧ ∃ G, L' = L ++ G := by
          simp only [f__law_spare]
          refine SWp_cons ?_
          have z0 : ∀ n : Nat, ((n : Int) == 0) = (n == 0) := fun n => beq_nat n 0
          have zp : ∀ n : Nat, decide ((0 : Int) < (n : Int)) = !(n == 0) := fun n => by cases n <;> simp <;> omega
          simp only [evS_ite', evE_cmp, evE_blt, evE_call, evEs_cons, evEs_nil, evE_var, evE_con, sget, List.getElem?_cons_succ, List.getElem?_cons_zero, R.of_some, R.bind_ok, List.append_nil, h2, S_lmiss_eq, bltV, len_flS, cmpO_int, gt_int, Option.map_some, zp, asB_bl, R.toS_ok]
          unfold spareF
          cases ((missF cs ps d).length == 0) with
          | false =>
            simp only [Bool.not_false, if_true, Bool.false_eq_true, if_false]
            refine SWp_cons ?_
            simp only [evS_ret, evE_tup, evEs_nil, R.bind_ok, List.length_nil, big_val, Nat.zero_le, if_true, R.toS_ok, SWp_rt]
            exact ⟨rfl, [], by simp⟩
          | true =>
            simp only [Bool.not_true, Bool.false_eq_true, if_false, if_true, evSs_nil, SWp_nx]
            refine SWp_cons ?_
            simp only [evS_asg, evE_lst, evEs_nil, R.bind_ok, List.length_nil, big_val, Nat.zero_le, if_true, evG_nm, List.length_cons, List.set_cons_succ, List.set_cons_zero, Nat.reduceAdd, Nat.reduceLT, R.toS_ok, SWp_nx]
            refine SWp_cons ?_
            simp only [evS_for, evI_of, evE_var, sget, List.getElem?_cons_succ, List.getElem?_cons_zero, R.of_some, R.bind_ok, itV, SWp_toS, RWp_ok]
            refine (forL_ix (fun i s L' => (∃ y4 y5, s = [some (.fl (strL cs)), some (.fl (strL ps)), some (.bl d), some (.ref L.length), y4, y5]) ∧ L' = L ++ [.lst (strL ((cs.take i).filter fun z => (missF (lessF cs z) ps d).length == 0))]) (fun _ _ _ _ => rfl) ?_ ⟨⟨_, _, rfl⟩, rfl⟩).mono ?_ (fun _ _ h => h) (fun _ _ h => h) (fun _ _ h => h)
            · rintro i x hx s L' ⟨⟨y4, y5, rfl⟩, hL'⟩
              subst L'
              rw [strL, List.getElem?_map] at hx
              obtain ⟨z, hz, rfl⟩ := Option.map_eq_some_iff.mp hx
              have ht : cs.take (i + 1) = cs.take i ++ [z] := by rw [List.take_add_one, hz]; rfl
              rw [ht, List.filter_append]
              have hk : ((cs.take i).filter fun z => (missF (lessF cs z) ps d).length == 0).length < 1000 := by
                have h1 := List.length_filter_le (fun z => (missF (lessF cs z) ps d).length == 0) (cs.take i)
                rw [List.length_take] at h1
                omega
              generalize (cs.take i).filter (fun z => (missF (lessF cs z) ps d).length == 0) = acc at hk
              refine SWp_body_nm (by simp) ?_
              simp only [List.set_cons_succ, List.set_cons_zero]
              refine SWp_cons ?_
              have ec := fun L9 : LH => flt (T := T) (C := C) (L := L9) (i := 5) (src := .of (.var 0)) (cond := .cmp .ne (.var 5) (.var 4)) (s := [some (.fl (strL cs)), some (.fl (strL ps)), some (.bl d), some (.ref L.length), some (.str z), y5]) (ns := cs) (fun y => !(y == z)) (by simp) (by simp only [evI_of, evE_var, sget, List.getElem?_cons_zero, R.of_some, R.bind_ok, itV]) (fun y hy L' => by
                simp only [evE_cmp, evE_var, sget, List.set_cons_succ, List.set_cons_zero, List.getElem?_cons_succ, List.getElem?_cons_zero, R.of_some, R.bind_ok, cmpO_str, ne_str, Option.map_some]) (by simp; omega)
              simp only [less_ne] at ec
              rw [evS_ite', evE_cmp, evE_blt, evEs_cons, evE_call, evEs_cons, ec]
              simp only [evEs_cons, evEs_nil, evE_var, evE_con, sget, List.getElem?_cons_succ, List.getElem?_cons_zero, R.of_some, R.bind_ok, List.append_nil, h2, S_lmiss_eq, bltV, len_flS, cmpO_int, eq_int, Option.map_some, z0, asB_bl, R.toS_ok, List.filter_cons, List.filter_nil]
              cases ((missF (lessF cs z) ps d).length == 0) with
              | false =>
                simp only [Bool.false_eq_true, if_false, evSs_nil, SWp_nx, List.append_nil]
                exact ⟨⟨_, _, rfl⟩, by trivial⟩
              | true =>
                simp only [if_true]
                refine SWp_cons ?_
                simp only [evS_exp, evE_mth, evE_var, evEs_cons, evEs_nil, sget, List.getElem?_cons_succ, List.getElem?_cons_zero, R.of_some, R.bind_ok, mthV_last, app_last hk, R.toS_ok, SWp_nx, evSs_nil]
                exact ⟨⟨_, _, rfl⟩, by trivial⟩
            · rintro s L' ⟨⟨y4, y5, rfl⟩, hL'⟩
              subst L'
              rw [strL_len, List.take_length]
              have hk := List.length_filter_le (fun z => (missF (lessF cs z) ps d).length == 0) cs
              generalize cs.filter (fun z => (missF (lessF cs z) ps d).length == 0) = acc at hk
              refine SWp_cons ?_
              have et : tupV [.ref L.length] (L ++ [.lst (strL acc)]) = .ok (tN acc) (L ++ [.lst (strL acc)]) := by
                simp [tupV, seqAt, tN]
                try omega
              simp only [evS_ret, evE_blt, evEs_cons, evEs_nil, evE_var, sget, List.getElem?_cons_succ, List.getElem?_cons_zero, R.of_some, R.bind_ok, bltV, et, R.toS_ok, SWp_rt]
              exact ⟨by trivial, _, rfl⟩
        obtain ⟨v, L1, e, q1, G, q2⟩ := (RWp_evF (f := f__law_spare) (vs := [.fl (strL cs), .fl (strL ps), .bl d]) rfl (go.mono (fun _ _ h => h.elim) (fun _ _ h => h) (fun _ _ h => h) fun _ _ h => h)).ex
        subst q1 q2
        exact ⟨_, _, e, Sim.drop hL (by simp)⟩
      · cases h
    · cases h
  · cases h
end G.k48
set_option Elab.async false
set_option linter.all false
set_option maxRecDepth 100000
set_option maxHeartbeats 4000000
namespace G.k48
open PySem G
theorem szVs_tNs : ∀ ss : List (List String), ss.all (fun w => decide (w.length ≤ 1000)) = true → ∃ k, szVs (tNs ss) = some k ∧ k ≤ ss.length * 1001
  | [], _ => ⟨0, rfl, Nat.zero_le _⟩
  | a :: r, h => by
    rw [List.all_cons, Bool.and_eq_true] at h
    obtain ⟨k, e, hk⟩ := szVs_tNs r h.2
    have ha : a.length ≤ 1000 := of_decide_eq_true h.1
    refine ⟨a.length + 1 + k, ?_, by rw [List.length_cons, Nat.succ_mul]; omega⟩
    show szVs (tN a :: tNs r) = _
    simp only [szVs, tN, szV, szVs_strL, Option.map_some, Option.bind_some, e]
/-- a list on the heap and the same, frozen -/
theorem S_equal_ref {L : LH} {j : Nat} {ss : List (List String)} (hj : L[j]? = some (.lst (tNs ss))) (hl : ss.length ≤ 5) (hw : ss.all (fun w => decide (w.length ≤ 1000)) = true) : S_equal [.ref j, .fl (tNs ss)] L = .ok (.bl true) L := by
  obtain ⟨k, e, hk⟩ := szVs_tNs ss hw
  unfold S_equal
  simp only
  rw [if_pos ⟨k + 1, by omega, .lst (x := .ref j) (y := .fl (tNs ss)) (xs := tNs ss) (ys := tNs ss) (by simp [lstAt, hj]) rfl rfl (SzP_self e)⟩]
theorem rep_shape (cs ps : List String) (d : Bool) : (repF cs ps d).length ≤ 4 ∧ (repF cs ps d).all (fun w => decide (w.length ≤ 1000)) = true := by
  have hs := due_sub (defF ps) (bufF ps) (!cs.contains "flush_values") (!cs.contains "tell_values") (!cs.contains "drain_stores") (!cs.contains "tell_stores")
  rw [← way_sel] at hs
  rw [rep_pre]
  refine ⟨by rw [pre_len]; exact hs.2.1, List.all_eq_true.mpr fun w hw => ?_⟩
  obtain ⟨x, hx, rfl⟩ := List.mem_map.mp hw
  have h1 := of_decide_eq_true (List.all_eq_true.mp hs.2.2 x hx)
  have h2 : x.length ≤ 4 := by
    rw [← h1]
    exact Nat.le_trans (List.length_filter_le _ _) (by decide)
  have h3 := lacks_len cs d
  refine decide_eq_true ?_
  show (lacksF cs d ++ x).length ≤ 1000
  rw [List.length_append]
  omega
end G.k48
set_option Elab.async false
set_option linter.all false
set_option maxRecDepth 100000
set_option maxHeartbeats 4000000
namespace G.k48
open PySem G
def S_asked (args : List LV) (L : LH) : R LV := match args with
  | [.fl xs, .fl ys, .bl d] => match unS xs, unS ys with
    | some cs, some ps => if goodN crules cs = true ∧ goodN prules ps = true then .ok (.bl true) L else .stuck
    | _, _ => .stuck
  | _ => .stuck
theorem S_asked_eq {cs ps : List String} {d : Bool} {L : LH} (h1 : goodN crules cs = true) (h2 : goodN prules ps = true) : S_asked [.fl (strL cs), .fl (strL ps), .bl d] L = .ok (.bl true) L := by simp [S_asked, h1, h2]
/-- what holds of each of the repairs -/
theorem each_rep (cs ps : List String) (d : Bool) : ∀ w ∈ repF cs ps d, goodN crules w = true ∧ ((missF (crules.filter fun z => cs.contains z || w.contains z) ps d).length == 0) = true ∧
    ∀ n ∈ w, goodN crules (w.filter fun y => !(y == n)) = true ∧ ((missF (crules.filter fun z => cs.contains z || (w.filter fun y => !(y == n)).contains z) ps d).length == 0) = false := by
  intro w hw
  rw [rep_pre] at hw
  obtain ⟨x, hx, rfl⟩ := List.mem_map.mp hw
  have hs := due_sub (defF ps) (bufF ps) (!cs.contains "flush_values") (!cs.contains "tell_values") (!cs.contains "drain_stores") (!cs.contains "tell_stores")
  have hk := due_ok (defF ps) (bufF ps) (!cs.contains "flush_values") (!cs.contains "tell_values") (!cs.contains "drain_stores") (!cs.contains "tell_stores")
  rw [← way_sel] at hs hk
  have h1 := of_decide_eq_true (List.all_eq_true.mp hs.2.2 x hx)
  have h2 := List.all_eq_true.mp hk x hx
  rw [Bool.and_eq_true] at h2
  have xs : ∀ z ∈ x, z ∈ lways := fun z hz => by rw [← h1] at hz; exact (List.mem_filter.mp hz).1
  have g := one_goodN (cs := cs) (d := d) h1
  exact ⟨g, one_whole h2.1, fun n hn => ⟨filter_filter_good ok1 g _, one_less xs h2.2 hn⟩⟩
end G.k48
set_option Elab.async false
set_option linter.all false
set_option maxRecDepth 100000
set_option maxHeartbeats 4000000
namespace G.k48
open PySem G
theorem bor_eq {C : Orc} (hor : C "Carry.__or__" = S_or "Carry" crules) (cs ws : List String) (L : LH) : binO C .bor (obN "Carry" cs) (obN "Carry" ws) L = .ok (obN "Carry" (crules.filter fun z => cs.contains z || ws.contains z)) L := by
  have := S_or_eq (K := "Carry") (K1 := "Carry") (K2 := "Carry") (known := crules) (ns := cs) (ms := ws) (L := L)
  rw [← hor] at this
  simp only [obN] at this ⊢
  show (if "Carry" = "Carry" then (match dunB .bor with | some m => (C ("Carry" ++ "." ++ m) [.ob "Carry" ["names"] [.tup (strL cs)], .ob "Carry" ["names"] [.tup (strL ws)]] L).bind _ | none => R.stuck) else R.stuck) = _
  rw [if_pos rfl]
  show ((C "Carry.__or__" [.ob "Carry" ["names"] [.tup (strL cs)], .ob "Carry" ["names"] [.tup (strL ws)]] L).bind _) = _
  rw [this, R.bind_ok]
/-- Carry(one) of a good tuple -/
theorem mk_tup {T : Tbl} {C : Orc} {s : Sl} {L : LH} {i : Nat} {w : List String} (hC : C "Carry.__init__" = S_init crules) (h : goodN crules w = true) (hs : sget s i = some (tN w)) : evE T C (.frz (.new "Carry" [.var i] [])) s L = .ok (obN "Carry" w) L := by
  obtain ⟨h1, h2⟩ := goodN_iff.mp h
  have := frz_new (T := T) (C := C) (K := "Carry") (xs := [.var i]) (s := s) (L := L) (v := tN w) (by simp [hs]) hC (namesOf_tup w) h1
  rwa [h2] at this
end G.k48
set_option Elab.async false
set_option linter.all false
set_option maxRecDepth 100000
set_option maxHeartbeats 4000000
namespace G.k48
open PySem G
/-- the loop over the repairs -/
theorem loop_ok {T : Tbl} {C : Orc} {L : LH} {cs ps : List String} {d : Bool} {v0 v1 v6 : Option LV} {W : List (List String)} {rest : List Sm} {P : LV → LH → Prop} (hC : C "Carry.__init__" = S_init crules) (hw : C "is_whole" = S_isw) (hor : C "Carry.__or__" = S_or "Carry" crules)
    (hW : ∀ w ∈ W, goodN crules w = true ∧ ((missF (crules.filter fun z => cs.contains z || w.contains z) ps d).length == 0) = true ∧ ∀ n ∈ w, goodN crules (w.filter fun y => !(y == n)) = true ∧ ((missF (crules.filter fun z => cs.contains z || (w.filter fun y => !(y == n)).contains z) ps d).length == 0) = false)
    (k : ∀ y7 y8 y9, SWp (evSs T C rest [v0, v1, some (.bl d), some (obN "Carry" cs), some (obN "Policy" ps), some (.fl (tNs W)), v6, y7, y8, y9] L) No No No P) :
    SWp (evSs T C (.for (.nm 7) (.of (.var 5)) [.ite (.not (.calk "is_whole" [.bin .bor (.var 3) (.frz (.new "Carry" [.var 7] [])), .var 4] ["device"] [.var 2] [])) [.ret (.con (.bl false))] [],
      .for (.nm 8) (.of (.var 7)) [.ite (.calk "is_whole" [.bin .bor (.var 3) (.frz (.new "Carry" [.frz (.cpr (.var 9) (.nm 9) (.of (.var 7)) (some (.cmp .ne (.var 9) (.var 8))) [9])] [])), .var 4] ["device"] [.var 2] []) [.ret (.con (.bl false))] []]] :: rest)
      [v0, v1, some (.bl d), some (obN "Carry" cs), some (obN "Policy" ps), some (.fl (tNs W)), v6, none, none, none] L) No No No P := by
  refine SWp_cons ?_
  have z0 : ∀ n : Nat, ((n : Int) == 0) = (n == 0) := fun n => beq_nat n 0
  simp only [evS_for, evI_of, evE_var, sget, List.getElem?_cons_succ, List.getElem?_cons_zero, R.of_some, R.bind_ok, itV, SWp_toS, RWp_ok]
  refine (forL_ix (fun i s L' => (∃ y7 y8 y9, s = [v0, v1, some (.bl d), some (obN "Carry" cs), some (obN "Policy" ps), some (.fl (tNs W)), v6, y7, y8, y9]) ∧ L' = L) (fun _ _ _ _ => rfl) ?_ ⟨⟨_, _, _, rfl⟩, rfl⟩).mono ?_ (fun _ _ h => h) (fun _ _ h => h) (fun _ _ h => h)
  · rintro i x hx s L' ⟨⟨y7, y8, y9, rfl⟩, hL'⟩
    subst L'
    rw [tNs, List.getElem?_map] at hx
    obtain ⟨w, hwi, rfl⟩ := Option.map_eq_some_iff.mp hx
    obtain ⟨g1, g2, g3⟩ := hW w (List.mem_of_getElem? hwi)
    have hwl := okN_len (goodN_iff.mp g1).1
    refine SWp_body_nm (by simp) ?_
    simp only [List.set_cons_succ, List.set_cons_zero]
    refine SWp_cons ?_
    have hn := mk_tup (T := T) (s := [v0, v1, some (.bl d), some (obN "Carry" cs), some (obN "Policy" ps), some (.fl (tNs W)), v6, some (tN w), y8, y9]) (L := L) (i := 7) hC g1 (by simp [sget])
    rw [evS_ite', evE_not, evE_calk, evEs_cons, evE_bin, evE_var]
    simp only [sget, List.getElem?_cons_succ, List.getElem?_cons_zero, R.of_some, R.bind_ok]
    rw [hn]
    simp only [R.bind_ok, bor_eq hor, evEs_cons, evEs_nil, evE_var, sget, List.getElem?_cons_succ, List.getElem?_cons_zero, R.of_some, List.append_nil, List.cons_append, List.nil_append, hw, S_isw_eq, z0, g2, asB_bl, Bool.not_true, Bool.false_eq_true, if_false, R.toS_ok, evSs_nil, SWp_nx]
    refine SWp_cons ?_
    simp only [evS_for, evI_of, evE_var, sget, List.getElem?_cons_succ, List.getElem?_cons_zero, R.of_some, R.bind_ok, tN, itV, SWp_toS, RWp_ok]
    refine (forL_ix (fun i s L' => (∃ y8 y9, s = [v0, v1, some (.bl d), some (obN "Carry" cs), some (obN "Policy" ps), some (.fl (tNs W)), v6, some (tN w), y8, y9]) ∧ L' = L) (fun _ _ _ _ => rfl) ?_ ⟨⟨_, _, rfl⟩, rfl⟩).mono ?_ (fun _ _ (h : False) => h.elim) (fun _ _ (h : False) => h.elim) (fun _ _ h => h)
    · rintro q x hx s L' ⟨⟨y8, y9, rfl⟩, hL'⟩
      subst L'
      rw [strL, List.getElem?_map] at hx
      obtain ⟨z, hz, rfl⟩ := Option.map_eq_some_iff.mp hx
      obtain ⟨f1, f2⟩ := g3 z (List.mem_of_getElem? hz)
      refine SWp_body_nm (by simp) ?_
      simp only [List.set_cons_succ, List.set_cons_zero]
      refine SWp_cons ?_
      have ec := flt (T := T) (C := C) (L := L) (i := 9) (src := .of (.var 7)) (cond := .cmp .ne (.var 9) (.var 8)) (s := [v0, v1, some (.bl d), some (obN "Carry" cs), some (obN "Policy" ps), some (.fl (tNs W)), v6, some (tN w), some (.str z), y9]) (ns := w) (fun y => !(y == z)) (by simp) (by simp only [evI_of, evE_var, sget, List.getElem?_cons_succ, List.getElem?_cons_zero, R.of_some, R.bind_ok, tN, itV]) (fun y hy L' => by
        simp only [evE_cmp, evE_var, sget, List.set_cons_succ, List.set_cons_zero, List.getElem?_cons_succ, List.getElem?_cons_zero, R.of_some, R.bind_ok, cmpO_str, ne_str, Option.map_some]) (by simp; omega)
      obtain ⟨h1, h2⟩ := goodN_iff.mp f1
      have hn := frz_new (T := T) (C := C) (K := "Carry") (xs := [.frz (.cpr (.var 9) (.nm 9) (.of (.var 7)) (some (.cmp .ne (.var 9) (.var 8))) [9])]) (s := [v0, v1, some (.bl d), some (obN "Carry" cs), some (obN "Policy" ps), some (.fl (tNs W)), v6, some (tN w), some (.str z), y9]) (L := L) (by rw [evEs_cons, ec, R.bind_ok, evEs_nil, R.bind_ok]) hC (namesOf_fl _) h1
      rw [h2] at hn
      rw [evS_ite', evE_calk, evEs_cons, evE_bin, evE_var]
      simp only [sget, List.getElem?_cons_succ, List.getElem?_cons_zero, R.of_some, R.bind_ok]
      rw [hn]
      simp only [R.bind_ok, bor_eq hor, evEs_cons, evEs_nil, evE_var, sget, List.getElem?_cons_succ, List.getElem?_cons_zero, R.of_some, List.append_nil, List.cons_append, List.nil_append, hw, S_isw_eq, z0, f2, asB_bl, Bool.false_eq_true, if_false, R.toS_ok, evSs_nil, SWp_nx]
      exact ⟨⟨_, _, rfl⟩, by trivial⟩
    · rintro s L' ⟨⟨y8, y9, rfl⟩, hL'⟩
      subst L'
      simp only [evSs_nil, SWp_nx]
      exact ⟨⟨_, _, _, rfl⟩, by trivial⟩
  · rintro s L' ⟨⟨y7, y8, y9, rfl⟩, hL'⟩
    subst L'
    exact k _ _ _
end G.k48
set_option Elab.async false
set_option linter.all false
set_option maxRecDepth 100000
set_option maxHeartbeats 4000000
namespace G.k48
open PySem G
theorem spareF_len (cs ps : List String) (d : Bool) : (spareF cs ps d).length ≤ cs.length := by
  unfold spareF
  split
  · exact List.length_filter_le _ _
  · simp
theorem tupV_fl {L : LH} (ns : List String) : tupV [.fl (strL ns)] L = .ok (.tup (strL ns)) L := by simp [tupV, seqAt]
theorem m_asked {T C} (hP : C "Policy.__init__" = S_init prules) (hC : C "Carry.__init__" = S_init crules) (hlr : C "_law_repairs" = S_lreps) (hr : C "carry_repairs" = S_reps) (he : C "_law_equal" = S_equal) (hw : C "is_whole" = S_isw)
    (hor : C "Carry.__or__" = S_or "Carry" crules) (hs : C "spare_rules" = S_spare) (hls : C "_law_spare" = S_lspare) : Meets (evF T C f__law_asked) S_asked := by
  intro args L r2 L2 hL ha h
  unfold S_asked at h
  split at h
  · rename_i xs ys d
    split at h
    · rename_i cs ps e1 e2
      split at h
      · rename_i hq
        obtain ⟨hg, hg'⟩ := hq
        cases h
        have e1 := of_unS e1
        have e2 := of_unS e2
        subst e1 e2
        have hcl : cs.length ≤ 900 := by
          have := (goodN_iff.mp hg).2
          rw [← this]
          exact Nat.le_trans (List.length_filter_le _ _) (by decide)
        have hpl : ps.length < 1000 := okN_len (goodN_iff.mp hg').1
        obtain ⟨wl, ww⟩ := rep_shape cs ps d
        have each := each_rep cs ps d
        have hrep := fun L9 => S_lreps_eq (ps := ps) (d := d) (L := L9) hcl
        have sl := spareF_len cs ps d
        have hsp := fun L9 => S_spare_eq (cs := cs) (ps := ps) (d := d) (L := L9) hg
        have hlsp := fun L9 => S_lspare_eq (cs := cs) (ps := ps) (d := d) (L := L9) hcl
        have hreps := fun L9 => S_reps_eq (cs := cs) (ps := ps) (d := d) (L := L9)
        have e3 := fun (L9 : LH) => S_equal_tupS (ns := spareF cs ps d) (L := L9) (by omega)
        have e4 := fun (L9 : LH) => S_equal_tupS (ns := cs) (L := L9) (by omega)
        have e5 := fun (L9 : LH) => S_equal_tupS (ns := ps) (L := L9) (by omega)
        generalize hW : repF cs ps d = W at *
        have eqr : ∀ (L9 : LH), S_equal [.ref L9.length, .fl (tNs W)] (L9 ++ [.lst (tNs W)]) = .ok (.bl true) (L9 ++ [.lst (tNs W)]) := fun L9 => S_equal_ref get_last (by omega) ww
        have hrepsT : d = true → ∀ L9, S_reps [obN "Carry" cs, obN "Policy" ps, .bl true] L9 = .ok (.ref L9.length) (L9 ++ [.lst (tNs W)]) := fun e L9 => by subst e; exact hreps L9
        have hspT : d = true → ∀ L9, S_spare [obN "Carry" cs, obN "Policy" ps, .bl true] L9 = .ok (tN (spareF cs ps d)) L9 := fun e L9 => by subst e; exact hsp L9
        have hlspT : d = true → ∀ L9, S_lspare [.fl (strL cs), .fl (strL ps), .bl true] L9 = .ok (tN (spareF cs ps d)) L9 := fun e L9 => by subst e; exact hlsp L9
        generalize spareF cs ps d = sp at *
        have go : SWp (evSs T C f__law_asked.body [some (.fl (strL cs)), some (.fl (strL ps)), some (.bl d), none, none, none, none, none, none, none] L) No No No fun v L' => v = .bl true ∧ ∃ G, L' = L ++ G := by
          simp only [f__law_asked]
          refine SWp_asg (mk_ob hC hg (by simp [sget])) (by simp) ?_
          simp only [List.set_cons_succ, List.set_cons_zero]
          refine SWp_asg (mk_ob hP hg' (by simp [sget])) (by simp) ?_
          simp only [List.set_cons_succ, List.set_cons_zero]
          refine SWp_asg (v := .fl (tNs W)) (L1 := L) (by simp only [evE_call, evEs_cons, evEs_nil, evE_var, sget, List.getElem?_cons_succ, List.getElem?_cons_zero, R.of_some, R.bind_ok, List.append_nil, hlr, hrep]) (by simp) ?_
          simp only [List.set_cons_succ, List.set_cons_zero]
          refine SWp_asg (v := .ref L.length) (L1 := L ++ [.lst (tNs W)]) (by simp only [evE_calk, evEs_cons, evEs_nil, evE_var, sget, List.getElem?_cons_succ, List.getElem?_cons_zero, R.of_some, R.bind_ok, List.append_nil, List.cons_append, List.nil_append, hr, hreps]) (by simp) ?_
          simp only [List.set_cons_succ, List.set_cons_zero]
          refine SWp_cons ?_
          simp only [evS_ite', evE_or, evE_not, evE_call, evE_calk, evEs_cons, evEs_nil, evE_var, sget, List.getElem?_cons_succ, List.getElem?_cons_zero, R.of_some, R.bind_ok, List.append_nil, List.cons_append, List.nil_append, he, eqr, asB_bl, Bool.not_true, Bool.false_eq_true, if_false, hs, hsp, hls, hlsp]
          simp only [tN, e3, R.bind_ok, asB_bl, Bool.not_true, Bool.false_eq_true, if_false, R.toS_ok, evSs_nil, SWp_nx]
          refine loop_ok hC hw hor each fun y7 y8 y9 => ?_
          refine SWp_cons ?_
          simp only [evS_exp, evE_mth, evE_var, evE_tup, evE_con, evEs_cons, evEs_nil, sget, List.getElem?_cons_succ, List.getElem?_cons_zero, R.of_some, R.bind_ok, mthV_last, List.length_cons, List.length_nil, big_val, Nat.reduceAdd, Nat.reduceLeDiff, if_true, app_lst (show (tNs W).length < 1000 by simp; omega), R.toS_ok, SWp_nx]
          generalize hLd : L ++ [LO.lst (tNs W ++ [.tup [.str "cells"]])] = Ld
          have third : ∀ L9 : LH, SWp (evSs T C [.ret (.and (.call "_law_equal" [.fld (.var 3) "names", .blt "tuple" [.var 0]] []) (.call "_law_equal" [.fld (.var 4) "names", .blt "tuple" [.var 1]] []))] [some (.fl (strL cs)), some (.fl (strL ps)), some (.bl d), some (obN "Carry" cs), some (obN "Policy" ps), some (.fl (tNs W)), some (.ref L.length), y7, y8, y9] L9) No No No fun v L' => v = .bl true ∧ L' = L9 := by
            intro L9
            refine SWp_cons ?_
            simp only [evS_ret, evE_and, evE_call, evE_fld, evE_blt, evEs_cons, evEs_nil, evE_var, sget, List.getElem?_cons_succ, List.getElem?_cons_zero, R.of_some, R.bind_ok, fld_obN, bltV, tupV_fl, List.append_nil, he, e4, e5, asB_bl, if_true, R.toS_ok, SWp_rt]
            exact ⟨by trivial, by trivial⟩
          have fin : ∀ {r : SR} {N B K : SP} {P : LV → LH → Prop} {L9 : LH}, SWp r No No No (fun v L' => v = .bl true ∧ L' = L9) → (∀ v L', (v = LV.bl true ∧ L' = L9) → P v L') → SWp r N B K P := fun h i => h.mono (fun _ _ h => h.elim) (fun _ _ h => h.elim) (fun _ _ h => h.elim) i
          refine SWp_cons ?_
          rw [evS_ite', evE_and, evE_var]
          simp only [sget, List.getElem?_cons_succ, List.getElem?_cons_zero, R.of_some, R.bind_ok, asB_bl]
          cases d with
          | false =>
            simp only [Bool.false_eq_true, if_false, R.bind_ok, asB_bl, R.toS_ok, evSs_nil, SWp_nx]
            refine SWp_cons ?_
            rw [evS_ite', evE_and, evE_var]
            simp only [sget, List.getElem?_cons_succ, List.getElem?_cons_zero, R.of_some, R.bind_ok, asB_bl, Bool.false_eq_true, if_false, R.toS_ok, evSs_nil, SWp_nx]
            exact fin (third Ld) fun v L' h => ⟨h.1, _, h.2.trans hLd.symm⟩
          | true =>
            have q1 := fun L9 => hrepsT rfl L9
            have q2 := fun L9 => hspT rfl L9
            have q3 := fun L9 => hlspT rfl L9
            simp only [if_true, evE_not, evE_call, evEs_cons, evEs_nil, evE_var, sget, List.getElem?_cons_succ, List.getElem?_cons_zero, R.of_some, R.bind_ok, List.append_nil, List.cons_append, List.nil_append, hr, q1, he, eqr, asB_bl, Bool.not_true, Bool.false_eq_true, if_false, R.toS_ok, evSs_nil, SWp_nx]
            refine SWp_cons ?_
            simp only [evS_ite', evE_and, evE_var, evE_con, evE_not, evE_call, evEs_cons, evEs_nil, sget, List.getElem?_cons_succ, List.getElem?_cons_zero, R.of_some, R.bind_ok, asB_bl, if_true, List.append_nil, List.cons_append, List.nil_append, hs, q2, hls, q3]
            simp only [tN, he, e3, R.bind_ok, asB_bl, Bool.not_true, Bool.false_eq_true, if_false, R.toS_ok, evSs_nil, SWp_nx]
            exact fin (third _) fun v L' h => ⟨h.1, _, h.2.trans (by rw [← hLd, List.append_assoc])⟩
        obtain ⟨v, L1, e, q1, G, q2⟩ := (RWp_evF (f := f__law_asked) (vs := [.fl (strL cs), .fl (strL ps), .bl d]) rfl (go.mono (fun _ _ h => h.elim) (fun _ _ h => h) (fun _ _ h => h) fun _ _ h => h)).ex
        subst q1 q2
        exact ⟨_, _, e, Sim.drop hL rfl⟩
      · cases h
    · cases h
  · cases h
end G.k48
set_option Elab.async false
set_option linter.all false
set_option maxRecDepth 100000
set_option maxHeartbeats 4000000
namespace G.k48
open PySem G
def val3 : List (List String) := [["flush_values"], ["tell_values"], ["flush_values", "tell_values"]]
def sto3 : List (List String) := [["drain_stores"], ["tell_stores"], ["drain_stores", "tell_stores"]]
def handB (i j : Nat) (k : Bool) : List String := (srules ++ (val3.getD i [] ++ sto3.getD j [])) ++ (if k then ["entries"] else [])
def handF (ds : List Int) (a : Int) : List String := handB (dg ds a.toNat % 3).toNat (dg ds (a + 1).toNat % 3).toNat (dg ds (a + 2).toNat % 2 == 1)
theorem tri {x y z : LV} {r : Int} (L : LH) : idxV (.fl [x, y, z]) (.int (r % 3)) L = some ([x, y, z].getD (r % 3).toNat x) := by
  have : r % 3 = 0 ∨ r % 3 = 1 ∨ r % 3 = 2 := by omega
  rcases this with e | e | e <;> rw [e] <;> rfl
open Classical in
noncomputable def S_hand (args : List LV) (L : LH) : R LV := match args with
  | [.fl xs, .int a] => match intsL xs with
    | some ds => if Row ds ∧ 0 ≤ a ∧ a < 100000 then .ok (.fl (strL (handF ds a))) L else .stuck
    | none => .stuck
  | _ => .stuck
theorem S_hand_eq {L : LH} {ds : List Int} {a : Int} (h : Row ds) (ha : 0 ≤ a ∧ a < 100000) : S_hand [.fl (iL ds), .int a] L = .ok (.fl (strL (handF ds a))) L := by
  simp only [S_hand, intsL_iL]
  rw [if_pos ⟨h, ha⟩]
theorem m_hand {T C} (h1 : C "_law_carry_rules" = S_list crules) (h2 : C "_law_digit" = S_digit) : Meets (evF T C f__law_handing) S_hand := by
  intro args L r2 L2 hL ha h
  unfold S_hand at h
  split at h
  · rename_i xs a
    split at h
    · rename_i ds e1
      split at h
      · rename_i hh
        obtain ⟨hd, h0, hm⟩ := hh
        cases h
        have e1 := of_intsL e1
        subst e1
        have go : SWp (evSs T C f__law_handing.body [some (.fl (iL ds)), some (.int a), none, none, none] L) No No No fun v L' => v = .fl (strL (handF ds a)) ∧ L' = L := by
          simp only [f__law_handing]
          refine SWp_cons ?_
          have h13 : cutL crules none (some 13) = srules := by decide +kernel
          simp only [evS_asg, evE_frz, evE_slc, evE_call, evEs_nil, R.bind_ok, h1, S_list_eq, List.append_nil, evO_none, evO_some, evE_con, slcV_fl, cut_strL, h13, fz_strs, evG_nm, List.length_cons, List.length_nil, List.set_cons_succ, List.set_cons_zero, Nat.reduceAdd, Nat.reduceLT, if_true, R.toS_ok, SWp_nx]
          refine SWp_cons ?_
          have n1 := fun L9 => frz_names (T := T) (C := C) (s := [some (.fl (iL ds)), some (.int a), some (.fl (strL srules)), none, none]) (L := L9) ["flush_values"] (by decide)
          have n2 := fun L9 => frz_names (T := T) (C := C) (s := [some (.fl (iL ds)), some (.int a), some (.fl (strL srules)), none, none]) (L := L9) ["tell_values"] (by decide)
          have n3 := fun L9 => frz_names (T := T) (C := C) (s := [some (.fl (iL ds)), some (.int a), some (.fl (strL srules)), none, none]) (L := L9) ["flush_values", "tell_values"] (by decide)
          simp only [List.map_cons, List.map_nil] at n1 n2 n3
          have f3 : ∀ (x y z : List String), fzV L (.ref L.length) (L ++ [.lst [.fl (strL x), .fl (strL y), .fl (strL z)]]) = .ok (.fl [.fl (strL x), .fl (strL y), .fl (strL z)]) L := fun x y z => fzV_lst (by simp [clVs, clV])
          rw [evS_asg, evE_frz, evE_lst, evEs_cons, n1, R.bind_ok, evEs_cons, n2, R.bind_ok, evEs_cons, n3, R.bind_ok, evEs_nil]
          simp only [R.bind_ok, List.length_cons, List.length_nil, big_val, Nat.reduceAdd, Nat.reduceLeDiff, if_true, f3, evG_nm, List.set_cons_succ, List.set_cons_zero, Nat.reduceLT, R.toS_ok, SWp_nx]
          refine SWp_cons ?_
          have n1 := fun L9 y3 => frz_names (T := T) (C := C) (s := [some (.fl (iL ds)), some (.int a), some (.fl (strL srules)), y3, none]) (L := L9) ["drain_stores"] (by decide)
          have n2 := fun L9 y3 => frz_names (T := T) (C := C) (s := [some (.fl (iL ds)), some (.int a), some (.fl (strL srules)), y3, none]) (L := L9) ["tell_stores"] (by decide)
          have n3 := fun L9 y3 => frz_names (T := T) (C := C) (s := [some (.fl (iL ds)), some (.int a), some (.fl (strL srules)), y3, none]) (L := L9) ["drain_stores", "tell_stores"] (by decide)
          simp only [List.map_cons, List.map_nil] at n1 n2 n3
          rw [evS_asg, evE_frz, evE_lst, evEs_cons, n1, R.bind_ok, evEs_cons, n2, R.bind_ok, evEs_cons, n3, R.bind_ok, evEs_nil]
          simp only [R.bind_ok, List.length_cons, List.length_nil, big_val, Nat.reduceAdd, Nat.reduceLeDiff, if_true, f3, evG_nm, List.set_cons_succ, List.set_cons_zero, Nat.reduceLT, R.toS_ok, SWp_nx]
          refine SWp_cons ?_
          have d0 := fun L => S_digit_eq (L := L) hd h0
          have d1 := fun L => S_digit_eq (L := L) hd (show 0 ≤ a + 1 by omega)
          have d2 := fun L => S_digit_eq (L := L) hd (show 0 ≤ a + 2 by omega)
          have t1 := fun x y z r => tri (x := x) (y := y) (z := z) (r := r) L
          have g1 : [LV.fl (strL ["flush_values"]), .fl (strL ["tell_values"]), .fl (strL ["flush_values", "tell_values"])].getD (dg ds a.toNat % 3).toNat (.fl (strL ["flush_values"])) = .fl (strL (val3.getD (dg ds a.toNat % 3).toNat [])) := by
            have : dg ds a.toNat % 3 = 0 ∨ dg ds a.toNat % 3 = 1 ∨ dg ds a.toNat % 3 = 2 := by omega
            rcases this with e | e | e <;> rw [e] <;> rfl
          have g2 : [LV.fl (strL ["drain_stores"]), .fl (strL ["tell_stores"]), .fl (strL ["drain_stores", "tell_stores"])].getD (dg ds (a + 1).toNat % 3).toNat (.fl (strL ["drain_stores"])) = .fl (strL (sto3.getD (dg ds (a + 1).toNat % 3).toNat [])) := by
            have : dg ds (a + 1).toNat % 3 = 0 ∨ dg ds (a + 1).toNat % 3 = 1 ∨ dg ds (a + 1).toNat % 3 = 2 := by omega
            rcases this with e | e | e <;> rw [e] <;> rfl
          have l1 : (val3.getD (dg ds a.toNat % 3).toNat []).length ≤ 2 := by
            have : dg ds a.toNat % 3 = 0 ∨ dg ds a.toNat % 3 = 1 ∨ dg ds a.toNat % 3 = 2 := by omega
            rcases this with e | e | e <;> rw [e] <;> decide
          have l2 : (sto3.getD (dg ds (a + 1).toNat % 3).toNat []).length ≤ 2 := by
            have : dg ds (a + 1).toNat % 3 = 0 ∨ dg ds (a + 1).toNat % 3 = 1 ∨ dg ds (a + 1).toNat % 3 = 2 := by omega
            rcases this with e | e | e <;> rw [e] <;> decide
          have hv : val3.getD (dg ds a.toNat % 3).toNat [] = val3.getD (dg ds a.toNat % 3).toNat [] := rfl
          unfold handF handB
          generalize val3.getD (dg ds a.toNat % 3).toNat [] = vs at g1 l1
          generalize sto3.getD (dg ds (a + 1).toNat % 3).toNat [] = ts at g2 l2
          have a1 := add_fz (C := C) (L := L) srules vs (by have : srules.length = 13 := rfl; omega)
          have a2 := add_fz (C := C) (L := L) (srules ++ vs) ts (by have : srules.length = 13 := rfl; rw [List.length_append]; omega)
          rw [← List.append_assoc]
          have ez : evE T C (.frz (.bin .add (.frz (.bin .add (.var 2) (.idx (.var 3) (.bin .mod (.blt "int" [.call "_law_digit" [.var 0, .var 1] []]) (.con (.int 3)))))) (.idx (.var 4) (.bin .mod (.blt "int" [.call "_law_digit" [.var 0, .bin .add (.var 1) (.con (.int 1))] []]) (.con (.int 3))))))
              [some (.fl (iL ds)), some (.int a), some (.fl (strL srules)), some (.fl [.fl (strL ["flush_values"]), .fl (strL ["tell_values"]), .fl (strL ["flush_values", "tell_values"])]), some (.fl [.fl (strL ["drain_stores"]), .fl (strL ["tell_stores"]), .fl (strL ["drain_stores", "tell_stores"])])] L = .ok (.fl (strL ((srules ++ vs) ++ ts))) L := by
            simp only [evE_frz, evE_bin, evE_idx, evE_blt, evE_call, evEs_cons, evEs_nil, evE_var, evE_con, sget, List.getElem?_cons_succ, List.getElem?_cons_zero, R.of_some, R.bind_ok, List.append_nil, h2, d0, d1, bltV, intV, show binO C .mod (.int (dg ds a.toNat)) (.int 3) L = .ok (.int (dg ds a.toNat % 3)) L from by simp [binO, binV], show binO C .mod (.int (dg ds (a + 1).toNat)) (.int 3) L = .ok (.int (dg ds (a + 1).toNat % 3)) L from by simp [binO, binV], show binO C .add (.int a) (.int 1) L = .ok (.int (a + 1)) L from rfl, t1, g1, g2, a1, a2]
          rw [evS_asg, ez]
          simp only [R.bind_ok, evG_nm, List.length_cons, List.length_nil, List.set_cons_succ, List.set_cons_zero, Nat.reduceAdd, Nat.reduceLT, if_true, R.toS_ok, SWp_nx]
          have lz : ((srules ++ vs) ++ ts).length ≤ 17 := by
            have : srules.length = 13 := rfl
            rw [List.length_append, List.length_append]; omega
          generalize (srules ++ vs) ++ ts = zs at lz
          refine SWp_cons ?_
          simp only [evS_ite', evE_cmp, evE_bin, evE_blt, evE_call, evEs_cons, evEs_nil, evE_var, evE_con, sget, List.getElem?_cons_succ, List.getElem?_cons_zero, R.of_some, R.bind_ok, List.append_nil, h2, d2, bltV, intV, show binO C .add (.int a) (.int 2) L = .ok (.int (a + 2)) L from rfl, show binO C .mod (.int (dg ds (a + 2).toNat)) (.int 2) L = .ok (.int (dg ds (a + 2).toNat % 2)) L from by simp [binO, binV], cmpO_int, eq_int, Option.map_some, asB_bl, R.toS_ok]
          cases (dg ds (a + 2).toNat % 2 == 1) with
          | false =>
            simp only [Bool.false_eq_true, if_false, evSs_nil, SWp_nx, List.append_nil]
            refine SWp_cons ?_
            simp [sget]
          | true =>
            simp only [if_true]
            refine SWp_cons ?_
            have n4 := fun L9 y3 y4 => frz_names (T := T) (C := C) (s := [some (.fl (iL ds)), some (.int a), some (.fl (strL zs)), y3, y4]) (L := L9) ["entries"] (by decide)
            simp only [List.map_cons, List.map_nil] at n4
            have a3 := add_fz (C := C) (L := L) zs ["entries"] (by simp; omega)
            rw [evS_asg, evE_frz, evE_bin, evE_var]
            simp only [sget, List.getElem?_cons_succ, List.getElem?_cons_zero, R.of_some, R.bind_ok]
            rw [n4, R.bind_ok, a3]
            simp only [R.bind_ok, evG_nm, List.length_cons, List.length_nil, List.set_cons_succ, List.set_cons_zero, Nat.reduceAdd, Nat.reduceLT, if_true, R.toS_ok, SWp_nx, evSs_nil]
            refine SWp_cons ?_
            simp [sget]
        obtain ⟨v, L1, e, q1, q2⟩ := (RWp_evF (f := f__law_handing) (vs := [.fl (iL ds), .int a]) rfl (go.mono (fun _ _ h => h.elim) (fun _ _ h => h) (fun _ _ h => h) fun _ _ h => h)).ex
        subst q1 q2
        exact ⟨_, _, e, Sim.refl hL (by simp [clV]) (Nat.le_refl _)⟩
      · cases h
    · cases h
  · cases h
theorem hand_good : ∀ k, ∀ i, i < 3 → ∀ j, j < 3 → goodN crules (handB i j k) = true := by decide +kernel
theorem handF_good (ds : List Int) (a : Int) : goodN crules (handF ds a) = true := hand_good _ _ (by omega) _ (by omega)
end G.k48
set_option Elab.async false
set_option linter.all false
set_option maxRecDepth 100000
set_option maxHeartbeats 4000000
namespace G.k48
open PySem G
def S_law (args : List LV) (L : LH) : R LV := match args with
  | [.fl xs] => match intsL xs with
    | some ns => .ok (.bl true) L
    | none => .stuck
  | _ => .stuck
def four : List String := ["eager", "single", "prompt_store", "stop_store"]
def nearC (out d : Int) (k : Nat) : Bool := !((k : Int) == out) && !((k : Int) == (out + d) % 18)
theorem lways_eq : cutL crules (some 13) (some 17) = lways := by decide +kernel
theorem law_in {T C} (hA : C "_law_asked" = S_asked) {L : LH} {xs : List (List String)} {ps : List String} {v0 v1 v2 v3 v5 v6 v7 v8 v9 v10 : Option LV} {it : It} (hps : goodN prules ps = true) (hx : ∀ x ∈ xs, goodN crules x = true)
    (hi : evI T C it [v0, v1, v2, v3, some (.fl (strL ps)), v5, v6, v7, v8, v9, v10] L = .ok (xs.map fun x => .fl (strL x), none) L) {P : LV → LH → Prop} {N : SP} (k : ∀ y8, N [v0, v1, v2, v3, some (.fl (strL ps)), v5, v6, v7, y8, v9, v10] L) :
    SWp (evSs T C [.for (.nm 8) it [.ite (.or (.not (.call "_law_asked" [.var 8, .var 4, .con (.bl true)] [])) (.not (.call "_law_asked" [.var 8, .var 4, .con (.bl false)] []))) [.ret (.con (.bl false))] []]] [v0, v1, v2, v3, some (.fl (strL ps)), v5, v6, v7, v8, v9, v10] L) N No No P := by
  refine SWp_cons ?_
  refine SWp_for hi ?_
  refine (forL_ix (fun _ s L' => (∃ y8, s = [v0, v1, v2, v3, some (.fl (strL ps)), v5, v6, v7, y8, v9, v10]) ∧ L' = L) (fun _ _ _ _ => rfl) ?_ ⟨⟨_, rfl⟩, rfl⟩).mono ?_ (fun _ _ h => h) (fun _ _ h => h) (fun _ _ h => h)
  · rintro i x hx' s L' ⟨⟨y8, rfl⟩, hL'⟩
    subst L'
    rw [List.getElem?_map] at hx'
    obtain ⟨q, hq, rfl⟩ := Option.map_eq_some_iff.mp hx'
    have hg := hx q (List.mem_of_getElem? hq)
    refine SWp_body_nm (by simp) ?_
    simp only [List.set_cons_succ, List.set_cons_zero]
    refine SWp_cons ?_
    simp only [evS_ite', evE_or, evE_not, evE_call, evE_con, evEs_cons, evEs_nil, evE_var, sget, List.getElem?_cons_succ, List.getElem?_cons_zero, R.of_some, R.bind_ok, List.append_nil, hA, S_asked_eq hg hps, asB_bl, Bool.not_true, Bool.false_eq_true, if_false, R.toS_ok, evSs_nil, SWp_nx]
    exact ⟨⟨_, rfl⟩, by trivial⟩
  · rintro s L' ⟨⟨y8, rfl⟩, hL'⟩
    subst L'
    simp only [evSs_nil, SWp_nx]
    exact k y8
theorem m_law {T C} (hr : C "_law_row" = S_row) (ha : C "_law_any" = S_rules anyF) (hp : C "_law_pick" = S_pick) (hd : C "_law_digit" = S_digit) (hc : C "_law_carry_rules" = S_list crules) (hs : C "_law_some_carry" = S_rules someF) (hh : C "_law_handing" = S_hand) (hA : C "_law_asked" = S_asked) : Meets (evF T C f_law) S_law := by
  intro args L r2 L2 hLL hcl h
  unfold S_law at h
  split at h
  · rename_i xs
    split at h
    · rename_i ns e1
      cases h
      have e1 := of_intsL e1
      subst e1
      have hR : Row (rowF 150 ns) := row_Row ns (by decide)
      have hrow := S_row_eq (L := L) (ns := ns) (m := 150) (by decide)
      generalize rowF 150 ns = ds at hR hrow
      have go : SWp (evSs T C f_law.body [some (.fl (ns.map .int)), none, none, none, none, none, none, none, none, none, none] L) No No No fun v L' => v = .bl true ∧ L' = L := by
        simp only [f_law]
        refine SWp_asg (v := .fl (iL ds)) (L1 := L) (by simp only [evE_call, evEs_cons, evEs_nil, evE_var, evE_con, sget, List.getElem?_cons_zero, R.of_some, R.bind_ok, List.append_nil, hr, hrow]) (by simp) ?_
        simp only [List.set_cons_succ, List.set_cons_zero]
        refine SWp_cons ?_
        have hrg := fun L' => rng_ok (n := 3) (L' := L') (by decide)
        simp only [Int.cast_ofNat_Int] at hrg
        refine SWp_for (xs := (List.range 3).map fun (k : Nat) => .int (0 + k)) (c := none) (L1 := L) (by simp only [evI_rng, evEs_cons, evEs_nil, evE_con, R.bind_ok, hrg]) ?_
        refine (forL_ix (fun _ s L' => (∃ y2 y3 y4 y5 y6 y7 y8 y9 y10, s = [some (.fl (ns.map .int)), some (.fl (iL ds)), y2, y3, y4, y5, y6, y7, y8, y9, y10]) ∧ L' = L) (fun _ _ _ _ => rfl) ?_ ⟨⟨_, _, _, _, _, _, _, _, _, rfl⟩, rfl⟩).mono ?_ (fun _ _ h => h) (fun _ _ h => h) (fun _ _ h => h)
        · rintro i x hx s L' ⟨⟨y2, y3, y4, y5, y6, y7, y8, y9, y10, rfl⟩, hL'⟩
          subst L'
          rw [List.getElem?_map] at hx
          obtain ⟨q, hq, rfl⟩ := Option.map_eq_some_iff.mp hx
          have hq3 : q < 3 := by simpa using List.mem_range.mp (List.mem_of_getElem? hq)
          have hk0 : (0 : Int) + (q : Int) = q := by omega
          rw [hk0]
          refine SWp_body_nm (by simp) ?_
          simp only [List.set_cons_succ, List.set_cons_zero]
          have m1 : binO C .mul (.int 50) (.int (q : Int)) L = .ok (.int (50 * (q : Int))) L := by
            have : (-(2 ^ 64) < (50 : Int) ∧ (50 : Int) < 2 ^ 64) ∨ (-(2 ^ 64) < (q : Int) ∧ (q : Int) < 2 ^ 64) := .inl (by decide)
            simp only [binO_int, binV, mulV, this, if_true]
          refine SWp_asg (v := .int (50 * (q : Int))) (L1 := L) (by simp only [evE_bin, evE_con, evE_blt, evEs_cons, evEs_nil, evE_var, sget, List.getElem?_cons_succ, List.getElem?_cons_zero, R.of_some, R.bind_ok, bltV, intV, m1]) (by simp) ?_
          simp only [List.set_cons_succ, List.set_cons_zero]
          have hat : 0 ≤ 50 * (q : Int) ∧ 50 * (q : Int) < 1000 := by omega
          generalize 50 * (q : Int) = at_ at hat
          refine SWp_asg (v := .fl (strL (anyF ds at_))) (L1 := L) (by simp only [evE_call, evEs_cons, evEs_nil, evE_var, sget, List.getElem?_cons_succ, List.getElem?_cons_zero, R.of_some, R.bind_ok, List.append_nil, ha, S_rules_eq hR (show 0 ≤ at_ ∧ at_ < 100000 by omega)]) (by simp) ?_
          simp only [List.set_cons_succ, List.set_cons_zero]
          have gp : goodN prules (anyF ds at_) = true := good_filter ok2 _
          generalize anyF ds at_ = ps at gp
          have third : ∀ (ps : List String) (y10 : Option LV), goodN prules ps = true → SWp (evSs T C [.asg (.nm 5) (.call "_law_pick" [.var 1, .bin .add (.var 3) (.con (.int 30)), .con (.int 18)] []),
    .asg (.nm 6) (.frz (.cpr (.idx (.call "_law_carry_rules" [] []) (.var 9)) (.nm 9) (.rng [.con (.int 18)]) (some (.and (.cmp .ne (.var 9) (.var 5)) (.cmp .ne (.var 9) (.bin .mod (.blt "int" [.bin .add (.var 5) (.call "_law_digit" [.var 1, .bin .add (.var 3) (.con (.int 32))] [])]) (.con (.int 18)))))) [9])),
    .asg (.nm 7) (.frz (.cpr (.var 10) (.nm 10) (.of (.var 6)) (some (.cmp .nin (.var 10) (.frz (.slc (.call "_law_carry_rules" [] []) (some (.con (.int 13))) (some (.con (.int 17))))))) [10])),
    .for (.nm 8) (.of (.frz (.lst [.call "_law_some_carry" [.var 1, .bin .add (.var 3) (.con (.int 31))] [], .var 6, .call "_law_handing" [.var 1, .bin .add (.var 3) (.con (.int 33))] [], .var 7, .call "_law_carry_rules" [] [], .frz (.lst [])]))) [.ite (.or (.not (.call "_law_asked" [.var 8, .var 4, .con (.bl true)] [])) (.not (.call "_law_asked" [.var 8, .var 4, .con (.bl false)] []))) [.ret (.con (.bl false))] []]] [some (.fl (ns.map .int)), some (.fl (iL ds)), some (.int q), some (.int at_), some (.fl (strL ps)), y5, y6, y7, y8, y9, y10] L)
              (fun s L' => (∃ y2 y3 y4 y5 y6 y7 y8 y9 y10, s = [some (.fl (ns.map .int)), some (.fl (iL ds)), y2, y3, y4, y5, y6, y7, y8, y9, y10]) ∧ L' = L) No No fun v L' => v = .bl true ∧ L' = L := by
            intro ps y10 gp
            have ad : ∀ (n : Int) L9, binO C .add (.int at_) (.int n) L9 = .ok (.int (at_ + n)) L9 := fun n L9 => rfl
            refine SWp_asg (v := .int (pickF ds (at_ + 30) 18)) (L1 := L) (by simp only [evE_call, evE_bin, evE_con, evEs_cons, evEs_nil, evE_var, sget, List.getElem?_cons_succ, List.getElem?_cons_zero, R.of_some, R.bind_ok, List.append_nil, ad, hp, S_pick_eq hR (show 0 ≤ at_ + 30 by omega) (show (0 : Int) < 18 by decide)]) (by simp) ?_
            simp only [List.set_cons_succ, List.set_cons_zero]
            generalize pickF ds (at_ + 30) 18 = out
            have ec := frz_rules (T := T) (C := C) (L := L) (elt := .idx (.call "_law_carry_rules" [] []) (.var 9)) (tg := .nm 9) (src := .rng [.con (.int 18)]) (cond := some (.and (.cmp .ne (.var 9) (.var 5)) (.cmp .ne (.var 9) (.bin .mod (.blt "int" [.bin .add (.var 5) (.call "_law_digit" [.var 1, .bin .add (.var 3) (.con (.int 32))] [])]) (.con (.int 18)))))) (own := [9])
              (s := [some (.fl (ns.map .int)), some (.fl (iL ds)), some (.int q), some (.int at_), some (.fl (strL ps)), some (.int out), y6, y7, y8, y9, y10]) (known := crules) nd_c (by decide) (nearC out (dg ds (at_ + 32).toNat)) (by simp [rngV]; rfl) (fun k hk L' => by
                have d2 := S_digit_eq (L := L') (a := at_ + 32) hR (by omega)
                have hk2 := idx_strL (L := L') hk
                have md : binO C .mod (.int (out + dg ds (at_ + 32).toNat)) (.int 18) L' = .ok (.int ((out + dg ds (at_ + 32).toNat) % 18)) L' := by simp [binO, binV]
                have ad2 : binO C .add (.int out) (.int (dg ds (at_ + 32).toNat)) L' = .ok (.int (out + dg ds (at_ + 32).toNat)) L' := rfl
                simp only [cprB, wipeL, evG_nm, List.length_cons, List.length_nil, List.set_cons_succ, List.set_cons_zero, Nat.reduceAdd, Nat.reduceLT, if_true, R.bind_ok, evC_some, evE_and, evE_cmp, evE_bin, evE_blt, evE_call, evEs_cons, evEs_nil, evE_var, evE_con, sget, List.getElem?_cons_succ, List.getElem?_cons_zero, R.of_some, ad, hd, d2, ad2, List.append_nil, bltV, intV, md, cmpO_int, ne_int, Option.map_some, asB_bl, evE_idx, hc, S_list_eq, hk2]
                unfold nearC
                rw [List.getElem?_eq_getElem hk]
                cases ((k : Int) == out) <;> cases ((k : Int) == (out + dg ds (at_ + 32).toNat) % 18) <;> simp [hk2, List.getElem?_eq_getElem hk])
            refine SWp_asg ec (by simp) ?_
            simp only [List.set_cons_succ, List.set_cons_zero]
            have gn : goodN crules (crules.filter fun z => nearC out (dg ds (at_ + 32).toNat) (crules.idxOf z)) = true := good_filter ok1 _
            generalize (crules.filter fun z => nearC out (dg ds (at_ + 32).toNat) (crules.idxOf z)) = nr at gn
            have nl := okN_len (goodN_iff.mp gn).1
            have eb := flt (T := T) (C := C) (L := L) (i := 10) (src := .of (.var 6)) (cond := .cmp .nin (.var 10) (.frz (.slc (.call "_law_carry_rules" [] []) (some (.con (.int 13))) (some (.con (.int 17)))))) (s := [some (.fl (ns.map .int)), some (.fl (iL ds)), some (.int q), some (.int at_), some (.fl (strL ps)), some (.int out), some (.fl (strL nr)), y7, y8, y9, y10]) (ns := nr) (fun z => !lways.contains z) (by simp) (by simp only [evI_of, evE_var, sget, List.getElem?_cons_succ, List.getElem?_cons_zero, R.of_some, R.bind_ok, itV]) (fun z hz L' => by
              simp only [List.set_cons_succ, List.set_cons_zero, evE_cmp, evE_var, sget, List.getElem?_cons_succ, List.getElem?_cons_zero, R.of_some, R.bind_ok, evE_frz, evE_slc, evE_call, evEs_nil, hc, S_list_eq, List.append_nil, evO_some, evE_con, slcV_fl, cut_strL, lways_eq, fz_strs, cmpO_fl, nin_fl, Option.map_some]) (by simp; omega)
            refine SWp_asg eb (by simp) ?_
            simp only [List.set_cons_succ, List.set_cons_zero]
            have gb : goodN crules (nr.filter fun z => !lways.contains z) = true := filter_filter_good ok1 gn _
            generalize (nr.filter fun z => !lways.contains z) = br at gb
            have gs : goodN crules (someF ds (at_ + 31)) = true := good_filter ok1 _
            have gh := handF_good ds (at_ + 33)
            refine law_in hA gp (xs := [someF ds (at_ + 31), nr, handF ds (at_ + 33), br, crules, []]) (by
              intro x hx
              simp only [List.mem_cons, List.not_mem_nil, or_false] at hx
              rcases hx with rfl | rfl | rfl | rfl | rfl | rfl
              · exact gs
              · exact gn
              · exact gh
              · exact gb
              · decide +kernel
              · decide +kernel) ?_ (fun y8 => ⟨⟨_, _, _, _, _, _, _, _, _, rfl⟩, by trivial⟩)
            have f0 : fzV L (.ref L.length) (L ++ [.lst []]) = .ok (.fl (strL [])) L := fzV_lst rfl
            have f6 : ∀ a b c d e f : List String, fzV L (.ref L.length) (L ++ [.lst [.fl (strL a), .fl (strL b), .fl (strL c), .fl (strL d), .fl (strL e), .fl (strL f)]]) = .ok (.fl [.fl (strL a), .fl (strL b), .fl (strL c), .fl (strL d), .fl (strL e), .fl (strL f)]) L := fun a b c d e f => fzV_lst (by simp [clVs, clV])
            simp only [evI_of, evE_frz, evE_lst, evE_call, evE_bin, evE_con, evEs_cons, evEs_nil, evE_var, sget, List.getElem?_cons_succ, List.getElem?_cons_zero, R.of_some, R.bind_ok, List.append_nil, ad, hs, hh, hc, S_list_eq, S_rules_eq hR (show 0 ≤ at_ + 31 ∧ at_ + 31 < 100000 by omega), S_hand_eq hR (show 0 ≤ at_ + 33 ∧ at_ + 33 < 100000 by omega), List.length_cons, List.length_nil, big_val, Nat.reduceAdd, Nat.reduceLeDiff, if_true, Nat.zero_le, f0, f6, itV, List.map_cons, List.map_nil]
          refine SWp_cons ?_
          simp only [evS_ite', evE_cmp, evE_con, evE_var, sget, List.getElem?_cons_succ, List.getElem?_cons_zero, R.of_some, R.bind_ok, cmpO_int, eq_int, Option.map_some, asB_bl, R.toS_ok]
          cases ((q : Int) == 1) with
          | false =>
            simp only [Bool.false_eq_true, if_false, evSs_nil, SWp_nx]
            exact (third ps _ gp).mono (fun _ _ h => h) (fun _ _ (h : False) => h.elim) (fun _ _ (h : False) => h.elim) (fun _ _ h => h)
          | true =>
            simp only [if_true]
            have lp : ps.length < 1000 := okN_len (goodN_iff.mp gp).1
            have ec := flt (T := T) (C := C) (L := L) (i := 10) (src := .of (.var 4)) (cond := .cmp .nin (.var 10) (.frz (.lst [.con (.str "eager"), .con (.str "single"), .con (.str "prompt_store"), .con (.str "stop_store")]))) (s := [some (.fl (ns.map .int)), some (.fl (iL ds)), some (.int q), some (.int at_), some (.fl (strL ps)), y5, y6, y7, y8, y9, y10]) (ns := ps) (fun z => !four.contains z) (by simp) (by simp only [evI_of, evE_var, sget, List.getElem?_cons_succ, List.getElem?_cons_zero, R.of_some, R.bind_ok, itV]) (fun z hz L' => by
              have n4 := fun L9 => frz_names (T := T) (C := C) (s := [some (.fl (ns.map .int)), some (.fl (iL ds)), some (.int q), some (.int at_), some (.fl (strL ps)), y5, y6, y7, y8, y9, some (.str z)]) (L := L9) four (by decide)
              simp only [four, List.map_cons, List.map_nil] at n4
              simp only [List.set_cons_succ, List.set_cons_zero]
              rw [evE_cmp, evE_var]
              simp only [sget, List.getElem?_cons_succ, List.getElem?_cons_zero, R.of_some, R.bind_ok]
              rw [n4]
              simp only [R.bind_ok, cmpO_fl, nin_fl, Option.map_some, R.of_some, four]) (by simp; omega)
            refine SWp_asg ec (by simp) ?_
            simp only [List.set_cons_succ, List.set_cons_zero, evSs_nil, SWp_nx]
            exact (third _ _ (filter_filter_good ok2 gp _)).mono (fun _ _ h => h) (fun _ _ (h : False) => h.elim) (fun _ _ (h : False) => h.elim) (fun _ _ h => h)
        · rintro s L' ⟨⟨y2, y3, y4, y5, y6, y7, y8, y9, y10, rfl⟩, hL'⟩
          subst L'
          refine SWp_cons ?_
          simp only [evS_ret, evE_con, R.toS_ok, SWp_rt]
          exact ⟨by trivial, by trivial⟩
      obtain ⟨v, L1, e, q1, q2⟩ := (RWp_evF (f := f_law) (vs := [.fl (ns.map .int)]) rfl (go.mono (fun _ _ h => h.elim) (fun _ _ h => h) (fun _ _ h => h) fun _ _ h => h)).ex
      subst q1 q2
      exact ⟨_, _, e, Sim.refl hLL rfl (Nat.le_refl _)⟩
    · cases h
  · cases h
end G.k48
set_option Elab.async false
set_option linter.all false
set_option maxRecDepth 100000
set_option maxHeartbeats 4000000
namespace G.k48
open PySem G
theorem g1 : pkg.tbl.glob "CARRY_RULES" = some (.tup (strL crules)) := rfl
theorem g2 : pkg.tbl.glob "RULES" = some (.tup (strL prules)) := rfl
theorem g3 : pkg.tbl.glob "STATE_RULES" = some (.tup (strL srules)) := rfl
theorem g4 : pkg.tbl.glob "VALUE_WAYS" = some (.tup (strL ["flush_values", "tell_values"])) := rfl
theorem g5 : pkg.tbl.glob "STORE_WAYS" = some (.tup (strL ["drain_stores", "tell_stores"])) := rfl
noncomputable def S : Orc := fun key => match key with
  | "ordered_names" => S_on
  | "Carry.__init__" => S_init crules
  | "Carry.has" => S_has
  | "Carry.__or__" => S_or "Carry" crules
  | "Carry.__sub__" => S_sub "Carry" crules
  | "Policy.__init__" => S_init prules
  | "Policy.has" => S_has
  | "Policy.__or__" => S_or "Policy" prules
  | "Policy.__sub__" => S_sub "Policy" prules
  | "holds_set" => S_holds
  | "least_sets" => S_leastR
  | "has_one" => S_has_one
  | "defers_values" => S_ask defF
  | "buffers_stores" => S_ask bufF
  | "state_rules" => S_state
  | "missing_parts" => S_miss
  | "is_whole" => S_isw
  | "whole_ways" => S_ways
  | "carry_repairs" => S_reps
  | "spare_rules" => S_spare
  | "_law_row" => S_row
  | "_law_digit" => S_digit
  | "_law_pick" => S_pick
  | "_law_whole" => S_whole
  | "_law_equal" => S_equal
  | "_law_rules" => S_list prules
  | "_law_carry_rules" => S_list crules
  | "_law_any" => S_rules anyF
  | "_law_handing" => S_hand
  | "_law_some_carry" => S_rules someF
  | "_law_missing" => S_lmiss
  | "_law_sets" => S_lsets
  | "_law_repairs" => S_lreps
  | "_law_spare" => S_lspare
  | "_law_asked" => S_asked
  | "law" => S_law
  | _ => fun _ _ => .stuck
theorem S_out : ∀ key, (∀ d ∈ pkg.defs, d.key ≠ key) → ∀ vs L, S key vs L = .stuck := by
  intro key h vs L
  have hk : ∀ x ∈ pkg.defs.map (·.key), x ≠ key := fun x hx => by
    obtain ⟨d, hd, rfl⟩ := List.mem_map.mp hx
    exact h d hd
  have e : pkg.defs.map (·.key) = ["ordered_names", "Carry.__init__", "Carry.has", "Carry.__or__", "Carry.__sub__", "Policy.__init__", "Policy.has", "Policy.__or__", "Policy.__sub__", "holds_set", "least_sets", "has_one", "defers_values", "buffers_stores", "state_rules", "missing_parts", "is_whole", "whole_ways", "carry_repairs", "spare_rules", "_law_row", "_law_digit", "_law_pick", "_law_whole", "_law_equal", "_law_rules", "_law_carry_rules", "_law_any", "_law_handing", "_law_some_carry", "_law_missing", "_law_sets", "_law_repairs", "_law_spare", "_law_asked", "law"] := rfl
  rw [e] at hk
  unfold S
  split <;> first | rfl | exact absurd rfl (hk _ (by simp))
theorem dep_pos : ∀ d ∈ pkg.defs, 0 < dep d.key := by
  intro d hd
  simp only [pkg, List.mem_cons, List.not_mem_nil, or_false] at hd
  rcases hd with rfl | rfl | rfl | rfl | rfl | rfl | rfl | rfl | rfl | rfl | rfl | rfl | rfl | rfl | rfl | rfl | rfl | rfl | rfl | rfl | rfl | rfl | rfl | rfl | rfl | rfl | rfl | rfl | rfl | rfl | rfl | rfl | rfl | rfl | rfl | rfl <;> decide
theorem whole_int {C : Orc} (h : C "_law_whole" = S_whole) : ∀ i L, C "_law_whole" [.int i] L = .ok (.bl true) L := fun i L => by rw [h]; rfl
theorem meets : ∀ n, ∀ d ∈ pkg.defs, dep d.key = n + 1 → Meets (evF pkg.tbl (upTo dep S n) d.F) (S d.key) := by
  intro n d hd h
  simp only [pkg, List.mem_cons, List.not_mem_nil, or_false] at hd
  rcases hd with rfl | rfl | rfl | rfl | rfl | rfl | rfl | rfl | rfl | rfl | rfl | rfl | rfl | rfl | rfl | rfl | rfl | rfl | rfl | rfl | rfl | rfl | rfl | rfl | rfl | rfl | rfl | rfl | rfl | rfl | rfl | rfl | rfl | rfl | rfl | rfl <;> (cases h)
  · exact meets_on
  · exact meets_init g1 rfl
  · exact meets_has
  · exact m_or ok1 g1 rfl
  · exact m_sub ok1 rfl
  · exact meets_pinit g2
  · exact meets_has
  · exact m_or ok2 g2 rfl
  · exact m_sub ok2 rfl
  · exact m_holds
  · exact m_leastR rfl
  · exact m_has_one rfl rfl
  · exact m_def rfl
  · exact m_buf rfl
  · exact m_state g3
  · exact m_miss rfl rfl rfl rfl rfl g4 g5
  · exact m_isw rfl
  · exact m_ways rfl rfl rfl g4 g5
  · exact m_reps rfl rfl rfl
  · exact m_spare rfl rfl rfl
  · exact meets_row
  · exact meets_digit
  · exact m_pick
  · exact meets_whole
  · exact meets_equal (whole_int rfl)
  · exact m_lrules
  · exact m_lcrules
  · exact m_lany rfl rfl
  · exact m_hand rfl rfl
  · exact m_lsome rfl rfl
  · exact m_lmissing rfl
  · exact m_lsets
  · exact m_lreps rfl rfl rfl
  · exact m_lspare rfl
  · exact m_asked rfl rfl rfl rfl rfl rfl rfl rfl rfl
  · exact m_law rfl rfl rfl rfl rfl rfl rfl rfl
theorem law_true : ∀ ns : List Int, ns.length ≤ 63 → ∃ L, S dlaw.key [.fl (ns.map .int)] [] = .ok (.bl true) L := by
  intro ns _
  refine ⟨[], ?_⟩
  show S_law [.fl (iL ns)] [] = _
  unfold S_law
  simp only [intsL_iL]
end G.k48
open PySem PySem.W PyProof.Rows
set_option Elab.async false
set_option maxRecDepth 100000 in
set_option maxHeartbeats 0 in
theorem PySem.Challenge.cw_guestscarried_k48_whole_carry_repairs_ar_holds : PySem.Challenge.rw_guestscarried_k48_whole_carry_repairs_ar.Holds := by
  w_on; o_law; k_head; (case hw => w_witness2)
  k_fill
  refine L2.walk_ofK (l := PySem.Challenge.rw_guestscarried_k48_whole_carry_repairs_ar) (n := 63) (k := 200) (x := "script") (CX := L2.CX0) (sp := _root_.G.lawSp 63) rfl (by decide) rfl ⟨rfl, by decide, by decide⟩ (fun w h Y => PySem.W.kIn_of Y) ?F (fun _ _ _ _ h1 h2 h3 => _root_.G.law_sp h1 h2 h3) (fun _ _ _ _ h => h)
  case F =>
    intro w mg fa h KX GN hmg
    refine _root_.G.law_end (p := _root_.G.k48.pkg) (d := _root_.G.k48.dlaw) (m := 63) (n := 60) (dep := _root_.G.k48.dep) (S := _root_.G.k48.S) ?cHp ?cHl KX GN hmg _root_.G.k48.S_out _root_.G.k48.dep_pos ?cM1 ?cM2 (by decide) _root_.G.k48.meets _root_.G.k48.law_true
    case cHp => kernel_rfl
    case cHl => kernel_rfl
    case cM1 => simp only [_root_.G.k48.pkg, List.mem_cons, true_or, or_true]
    case cM2 => decide
