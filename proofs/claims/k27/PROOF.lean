import PyProof.Rows.All
import Wide.All
import OpenK.AllK
import Wide.FinOn
import HandS.ForMost
import HandS.TupAny
import HandS.Strs
import HandS.SetFor
import HandS.IsInst
import HandS.Flow
import PySem.Challenge.RW_twomakes_k27_whole_any_diary
set_option Elab.async false
set_option linter.all false
set_option maxRecDepth 100000
set_option maxHeartbeats 4000000
/-! Layer A: programs over plain data. A value in the heap stands for data Dv; readings of the hand layer are run over data alone. -/
namespace TM
open PySem L2

/-! ### data -/
inductive Dv where
  | non | bl (b : Bool) | int (i : Int) | str (s : Str)
  | lst (xs : List Dv) | tup (xs : List Dv) | tupz (xs : List Dv) | dic (ks : List (Key × Dv)) | raw (v : V)

mutual
inductive Dt (F : Hp) : V → Dv → Prop
  | non : Dt F .non .non
  | bl (b : Bool) : Dt F (.bl b) (.bl b)
  | int (i : Int) : Dt F (.int i) (.int i)
  | str (s : Str) : Dt F (.str s) (.str s)
  | lst {a : Addr} {xs : List V} {ds : List Dv} : F a = some (.lst xs) → DtAll F xs ds → Dt F (.ref a) (.lst ds)
  | tup {a : Addr} {xs : List V} {ds : List Dv} : Rd F a (.tup xs) → DtAll F xs ds → Dt F (.ref a) (.tup ds)
  | tupz {a : Addr} {o : Obj} {xs : List V} {ds : List Dv} : F a = some (.frz o (.tup xs)) → o.dict = none → DtAll F xs ds → Dt F (.ref a) (.tupz ds)
  | dic {a : Addr} {kvs : List (Key × V)} {ks : List (Key × Dv)} : F a = some (.dK kvs) → DtKV F kvs ks → Dt F (.ref a) (.dic ks)
  | raw (v : V) : Dt F v (.raw v)
inductive DtAll (F : Hp) : List V → List Dv → Prop
  | nil : DtAll F [] []
  | cons {v : V} {d : Dv} {vs : List V} {ds : List Dv} : Dt F v d → DtAll F vs ds → DtAll F (v :: vs) (d :: ds)
inductive DtKV (F : Hp) : List (Key × V) → List (Key × Dv) → Prop
  | nil : DtKV F [] []
  | cons {k : Key} {v : V} {d : Dv} {vs : List (Key × V)} {ds : List (Key × Dv)} : Dt F v d → DtKV F vs ds → DtKV F ((k, v) :: vs) ((k, d) :: ds)
end

theorem rd_same {F F' : Hp} (e : Same F F') {a : Addr} {u : HO} (h : Rd F a u) : Rd F' a u := by
  rcases h with h | ⟨o, h⟩
  · exact .inl (e _ _ h)
  · exact .inr ⟨o, e _ _ h⟩
mutual
theorem Dt.mono {F F' : Hp} (e : Same F F') : ∀ {v : V} {d : Dv}, Dt F v d → Dt F' v d
  | _, _, .non => .non
  | _, _, .bl b => .bl b
  | _, _, .int i => .int i
  | _, _, .str s => .str s
  | _, _, .lst h a => .lst (e _ _ h) (DtAll.mono e a)
  | _, _, .tup h a => .tup (rd_same e h) (DtAll.mono e a)
  | _, _, .tupz h z a => .tupz (e _ _ h) z (DtAll.mono e a)
  | _, _, .dic h a => .dic (e _ _ h) (DtKV.mono e a)
  | _, _, .raw v => .raw v
theorem DtAll.mono {F F' : Hp} (e : Same F F') : ∀ {vs : List V} {ds : List Dv}, DtAll F vs ds → DtAll F' vs ds
  | _, _, .nil => .nil
  | _, _, .cons h t => .cons (Dt.mono e h) (DtAll.mono e t)
theorem DtKV.mono {F F' : Hp} (e : Same F F') : ∀ {vs : List (Key × V)} {ds : List (Key × Dv)}, DtKV F vs ds → DtKV F' vs ds
  | _, _, .nil => .nil
  | _, _, .cons h t => .cons (Dt.mono e h) (DtKV.mono e t)
end
theorem DtAll.length {F : Hp} : ∀ {vs : List V} {ds : List Dv}, DtAll F vs ds → vs.length = ds.length
  | _, _, .nil => rfl
  | _, _, .cons _ t => by simp [DtAll.length t]
theorem DtAll.get {F : Hp} : ∀ {vs : List V} {ds : List Dv} {i : Nat} {d : Dv}, DtAll F vs ds → ds[i]? = some d → ∃ v, vs[i]? = some v ∧ Dt F v d
  | _, _, _, _, .nil, h => by simp at h
  | _, _, 0, _, .cons h _, e => by simp at e; subst e; exact ⟨_, rfl, h⟩
  | _, _, i + 1, _, .cons _ t, e => by
    obtain ⟨v, h1, h2⟩ := DtAll.get (i := i) t (by simpa using e)
    exact ⟨v, by simpa using h1, h2⟩
theorem DtAll.get' {F : Hp} : ∀ {vs : List V} {ds : List Dv} {i : Nat} {v : V}, DtAll F vs ds → vs[i]? = some v → ∃ d, ds[i]? = some d ∧ Dt F v d
  | _, _, _, _, .nil, h => by simp at h
  | _, _, 0, _, .cons h _, e => by simp at e; subst e; exact ⟨_, rfl, h⟩
  | _, _, i + 1, _, .cons _ t, e => by
    obtain ⟨v, h1, h2⟩ := DtAll.get' (i := i) t (by simpa using e)
    exact ⟨v, by simpa using h1, h2⟩
theorem DtAll.append {F : Hp} : ∀ {vs ws : List V} {ds es : List Dv}, DtAll F vs ds → DtAll F ws es → DtAll F (vs ++ ws) (ds ++ es)
  | _, _, _, _, .nil, h => h
  | _, _, _, _, .cons h t, h2 => .cons h (DtAll.append t h2)
theorem DtAll.take {F : Hp} : ∀ {vs : List V} {ds : List Dv} (n : Nat), DtAll F vs ds → DtAll F (vs.take n) (ds.take n)
  | _, _, 0, _ => by simp only [List.take_zero]; exact .nil
  | _, _, n + 1, .nil => by simp only [List.take_nil]; exact .nil
  | _, _, n + 1, .cons h t => by simp only [List.take_succ_cons]; exact .cons h (DtAll.take n t)
theorem DtAll.drop {F : Hp} : ∀ {vs : List V} {ds : List Dv} (n : Nat), DtAll F vs ds → DtAll F (vs.drop n) (ds.drop n)
  | _, _, 0, h => by simpa using h
  | _, _, n + 1, .nil => by simp only [List.drop_nil]; exact .nil
  | _, _, n + 1, .cons h t => by simp only [List.drop_succ_cons]; exact DtAll.drop n t
theorem DtAll.set {F : Hp} {v : V} {d : Dv} (h : Dt F v d) : ∀ {vs : List V} {ds : List Dv} (n : Nat), DtAll F vs ds → DtAll F (vs.set n v) (ds.set n d)
  | _, _, _, .nil => .nil
  | _, _, 0, .cons _ t => .cons h t
  | _, _, n + 1, .cons x t => .cons x (DtAll.set h n t)
theorem DtAll.nil_l {F : Hp} {vs : List V} (h : DtAll F vs []) : vs = [] := by cases h; rfl
theorem DtAll.ints {F : Hp} : ∀ (ns : List Int), DtAll F (ns.map V.int) (ns.map Dv.int)
  | [] => .nil
  | n :: ns => .cons (.int n) (DtAll.ints ns)
theorem DtAll.of_ints {F : Hp} : ∀ {ns : List Int} {vs : List V}, DtAll F vs (ns.map Dv.int) → vs = ns.map V.int
  | [], _, h => by cases h; rfl
  | n :: ns, _, h => by
    cases h with
    | cons h t => cases h; rw [List.map_cons, DtAll.of_ints t]

/-- a dict's item by its key -/
def lookD : List (Key × Dv) → Key → Option Dv
  | [], _ => none
  | (k, d) :: r, j => if k = j then some d else lookD r j
theorem DtKV.look {F : Hp} : ∀ {vs : List (Key × V)} {ds : List (Key × Dv)} {k : Key} {d : Dv}, DtKV F vs ds → lookD ds k = some d → ∃ v, valV vs k = some v ∧ Dt F v d
  | _, _, _, _, .nil, h => by simp [lookD] at h
  | _, _, k, d, .cons (k := k') h t, e => by
    unfold lookD at e
    by_cases q : k' = k
    · rw [if_pos q] at e
      obtain rfl := Option.some.inj e
      exact ⟨_, valV_pos q, h⟩
    · rw [if_neg q] at e
      obtain ⟨v, h1, h2⟩ := DtKV.look t e
      exact ⟨v, by rw [valV_neg q]; exact h1, h2⟩
theorem DtKV.miss {F : Hp} : ∀ {vs : List (Key × V)} {ds : List (Key × Dv)} {k : Key}, DtKV F vs ds → lookD ds k = none → valV vs k = none
  | _, _, _, .nil, h => rfl
  | _, _, k, .cons (k := k') h t, e => by
    unfold lookD at e
    by_cases q : k' = k
    · rw [if_pos q] at e; cases e
    · rw [if_neg q] at e
      rw [valV_neg q]; exact DtKV.miss t e

/-! ### the slots by data -/
inductive Env (F : Hp) : St → List (Option Dv) → Prop
  | en0 : Env F [] []
  | ens {v : V} {d : Dv} {σ : St} {ds : List (Option Dv)} : Dt F v d → Env F σ ds → Env F (some v :: σ) (some d :: ds)
  | enn {o : Option V} {σ : St} {ds : List (Option Dv)} : Env F σ ds → Env F (o :: σ) (none :: ds)
theorem Env.mono {F F' : Hp} (e : Same F F') : ∀ {σ : St} {ds : List (Option Dv)}, Env F σ ds → Env F' σ ds
  | _, _, .en0 => .en0
  | _, _, .ens h t => .ens (h.mono e) (Env.mono e t)
  | _, _, .enn t => .enn (Env.mono e t)
theorem Env.get {F : Hp} : ∀ {σ : St} {ds : List (Option Dv)} {i : Nat} {d : Dv}, Env F σ ds → ds[i]? = some (some d) → ∃ v, σ[i]? = some (some v) ∧ Dt F v d
  | _, _, _, _, .en0, h => by simp at h
  | _, _, 0, _, .ens h _, e => by simp at e; subst e; exact ⟨_, rfl, h⟩
  | _, _, 0, _, .enn _, e => by simp at e
  | _, _, i + 1, _, .ens _ t, e => by
    obtain ⟨v, h1, h2⟩ := Env.get (i := i) t (by simpa using e)
    exact ⟨v, by simpa using h1, h2⟩
  | _, _, i + 1, _, .enn t, e => by
    obtain ⟨v, h1, h2⟩ := Env.get (i := i) t (by simpa using e)
    exact ⟨v, by simpa using h1, h2⟩
theorem Env.set {F : Hp} {v : V} {d : Dv} (h : Dt F v d) : ∀ {σ : St} {ds : List (Option Dv)} (i : Nat), Env F σ ds → Env F (σ.set i (some v)) (ds.set i (some d))
  | _, _, _, .en0 => .en0
  | _, _, 0, .ens _ t => .ens h t
  | _, _, 0, .enn t => .ens h t
  | _, _, i + 1, .ens x t => .ens x (Env.set h i t)
  | _, _, i + 1, .enn t => .enn (Env.set h i t)
theorem Env.unset {F : Hp} : ∀ {σ : St} {ds : List (Option Dv)} (i : Nat), Env F σ ds → Env F (σ.set i none) (ds.set i none)
  | _, _, _, .en0 => .en0
  | _, _, 0, .ens _ t => .enn t
  | _, _, 0, .enn t => .enn t
  | _, _, i + 1, .ens x t => .ens x (Env.unset i t)
  | _, _, i + 1, .enn t => .enn (Env.unset i t)
theorem Env.nones {F : Hp} : ∀ (n : Nat), Env F (List.replicate n none) (List.replicate n none)
  | 0 => .en0
  | n + 1 => .enn (Env.nones n)
theorem Env.args {F : Hp} : ∀ {vs : List V} {ds : List Dv} {σ : St} {es : List (Option Dv)}, DtAll F vs ds → Env F σ es → Env F (vs.map some ++ σ) (ds.map some ++ es)
  | _, _, _, _, .nil, h => h
  | _, _, _, _, .cons h t, h2 => .ens h (Env.args t h2)
/-- the block's own slots forgotten -/
def wipeD (ds : List (Option Dv)) : List Nat → List (Option Dv)
  | [] => ds
  | v :: vs => (wipeD ds vs).set v none
theorem Env.wipe {F : Hp} {σ : St} {ds : List (Option Dv)} (h : Env F σ ds) : ∀ vs : List Nat, Env F (L2.wipe σ vs) (wipeD ds vs)
  | [] => h
  | v :: vs => (Env.wipe h vs).unset v

/-! ### what may change: the things at M, told by C; all else stands in the frozen part F of the heap H -/
structure JT (G : Type) where
  M : List Addr
  C : Hp → Hp → G → Prop
  mono : ∀ {F H F' H' : Hp} {g : G}, C F H g → Same F F' → Same F' H' → (∀ m, m ∈ M → H' m = H m) → C F' H' g
structure JT.Ok {G : Type} (J : JT G) (F H : Hp) (g : G) : Prop where
  ex : Same F H
  mu : ∀ m, m ∈ J.M → F m = none ∧ H m ≠ none
  c : J.C F H g
structure Tr {G : Type} (J : JT G) (F H F' H' : Hp) : Prop where
  f : Same F F'
  h : ∀ a o, H a = some o → a ∉ J.M → H' a = some o
  n : ∀ a, H a ≠ none → F a = none → F' a = none
  k : ∀ a, H a ≠ none → H' a ≠ none
section
variable {G : Type} {J : JT G} {F H F' H' F2 H2 : Hp} {g : G} {p : Addr} {o : HO}
theorem Tr.refl : Tr J F H F H := ⟨Same.refl _, fun _ _ h _ => h, fun _ _ h => h, fun _ h => h⟩
theorem Tr.trans (a : Tr J F H F' H') (b : Tr J F' H' F2 H2) : Tr J F H F2 H2 :=
  ⟨a.f.trans b.f, fun x o h m => b.h x o (a.h x o h m) m, fun x h n => b.n x (a.k x h) (a.n x h n), fun x h => b.k x (a.k x h)⟩
theorem JT.Ok.fnone (k : J.Ok F H g) (hp : H p = none) : F p = none := by
  cases q : F p with
  | none => rfl
  | some o => rw [k.ex _ _ q] at hp; cases hp
theorem JT.Ok.nomem (k : J.Ok F H g) (hp : H p = none) : p ∉ J.M := fun m => (k.mu p m).2 hp
/-- a thing that is not frozen and not among those that change: set, and frozen from then on -/
theorem JT.Ok.put (k : J.Ok F H g) (fp : F p = none) (np : p ∉ J.M) : J.Ok (upd F p o) (upd H p o) g := by
  have ex : Same (upd F p o) (upd H p o) := fun a u h => by
    by_cases e : a = p
    · subst e; rw [upd_same] at h ⊢; exact h
    · rw [upd_ne e] at h ⊢; exact k.ex _ _ h
  have ne : ∀ m, m ∈ J.M → m ≠ p := fun m hm e => np (by rw [← e]; exact hm)
  refine ⟨ex, fun m hm => ?_, J.mono k.c (fun a u h => by rw [upd_ne (ne_of_none h fp)]; exact h) ex fun m hm => by rw [upd_ne (ne m hm)]⟩
  rw [upd_ne (ne m hm), upd_ne (ne m hm)]; exact k.mu m hm
theorem JT.Ok.alloc (k : J.Ok F H g) (hp : H p = none) : J.Ok (upd F p o) (upd H p o) g := k.put (k.fnone hp) (k.nomem hp)
/-- set, but not frozen -/
theorem JT.Ok.put0 (k : J.Ok F H g) (fp : F p = none) (np : p ∉ J.M) : J.Ok F (upd H p o) g := by
  have ex : Same F (upd H p o) := fun a u h => by rw [upd_ne (ne_of_none h fp)]; exact k.ex _ _ h
  have ne : ∀ m, m ∈ J.M → m ≠ p := fun m hm e => np (by rw [← e]; exact hm)
  refine ⟨ex, fun m hm => ?_, J.mono k.c (Same.refl _) ex fun m hm => by rw [upd_ne (ne m hm)]⟩
  rw [upd_ne (ne m hm)]; exact k.mu m hm
theorem Tr.alloc (k : J.Ok F H g) (hp : H p = none) : Tr J F H (upd F p o) (upd H p o) := by
  have fp := k.fnone hp
  refine ⟨fun a u h => by rw [upd_ne (ne_of_none h fp)]; exact h, fun a u h _ => by rw [upd_ne (ne_of_none h hp)]; exact h, fun a h n => ?_, fun a h => ?_⟩
  · by_cases e : a = p
    · subst e; exact absurd hp h
    · rw [upd_ne e]; exact n
  · by_cases e : a = p
    · subst e; exact absurd hp h
    · rw [upd_ne e]; exact h
/-- from the start to a thing that was not there then, set at the end -/
theorem Tr.put (t : Tr J F H F' H') (hp : H p = none) (fp : F' p = none) (hp' : H' p ≠ none) : Tr J F H (upd F' p o) (upd H' p o) := by
  refine ⟨fun a u h => ?_, fun a u h m => ?_, fun a h n => ?_, fun a h => ?_⟩
  · have q := t.f a u h
    rw [upd_ne (ne_of_none q fp)]; exact q
  · rw [upd_ne (ne_of_none h hp)]; exact t.h a u h m
  · by_cases e : a = p
    · subst e; exact absurd hp h
    · rw [upd_ne e]; exact t.n a h n
  · by_cases e : a = p
    · subst e; exact absurd hp h
    · rw [upd_ne e]; exact t.k a h
end
end TM

/-! Layer B: what readings come to over data. -/
namespace TM
open PySem L2

abbrev DE := List (Option Dv)
/-! slots and places are found by instances, so that the lists stay written out -/
class GetC (ds : DE) (i : Nat) (d : outParam Dv) : Prop where
  h : ds[i]? = some (some d)
instance {ds : DE} {d : Dv} : GetC (some d :: ds) 0 d := ⟨rfl⟩
instance {ds : DE} {x : Option Dv} {n : Nat} {d : Dv} [c : GetC ds n d] : GetC (x :: ds) (n + 1) d := ⟨by rw [List.getElem?_cons_succ]; exact c.h⟩
class SetF (ds : DE) (i : Nat) (f : outParam (Dv → DE)) : Prop where
  h : ∀ d, ds.set i (some d) = f d
instance {ds : DE} {x : Option Dv} : SetF (x :: ds) 0 (fun d => some d :: ds) := ⟨fun _ => rfl⟩
instance {ds : DE} {x : Option Dv} {n : Nat} {f : Dv → DE} [c : SetF ds n f] : SetF (x :: ds) (n + 1) (fun d => x :: f d) := ⟨fun d => by rw [List.set_cons_succ, c.h]⟩
class ItC (xs : List Dv) (n : Nat) (d : outParam Dv) : Prop where
  h : xs[n]? = some d
instance {xs : List Dv} {d : Dv} : ItC (d :: xs) 0 d := ⟨rfl⟩
instance {xs : List Dv} {x d : Dv} {n : Nat} [c : ItC xs n d] : ItC (x :: xs) (n + 1) d := ⟨by rw [List.getElem?_cons_succ]; exact c.h⟩
instance {α : Type} {f : α → Dv} {x : α} {xs : List α} : ItC (List.map f (x :: xs)) 0 (f x) := ⟨rfl⟩
class AtC (xs : List Dv) (i : Int) (d : outParam Dv) : Prop where
  h : atI xs i = some d
instance {xs : List Dv} {n : Nat} {d : Dv} [c : ItC xs n d] : AtC xs (OfNat.ofNat n : Int) d := ⟨atI_nat (j := n) c.h⟩
section
variable {G : Type}
def WE (J : JT G) (ds : DE) (g : G) (te : TE) (Φ : Dv → G → Prop) : Prop :=
  ∀ (F H : Hp) (σ : St), J.Ok F H g → Env F σ ds → ∀ Q : VK, (∀ v d F' H' g', Φ d g' → J.Ok F' H' g' → Tr J F H F' H' → Dt F' v d → Q v H') → te σ H Q
def WA (J : JT G) (ds : DE) (g : G) (ta : TA) (Φ : List Dv → G → Prop) : Prop :=
  ∀ (F H : Hp) (σ : St), J.Ok F H g → Env F σ ds → ∀ Q : List V → Hp → Prop, (∀ vs es F' H' g', Φ es g' → J.Ok F' H' g' → Tr J F H F' H' → DtAll F' vs es → Q vs H') → ta σ H Q
def WT (J : JT G) (ds : DE) (g : G) (tt : TT) (Φ : Bool → G → Prop) : Prop :=
  ∀ (F H : Hp) (σ : St), J.Ok F H g → Env F σ ds → ∀ Q : Bool → Hp → Prop, (∀ b F' H' g', Φ b g' → J.Ok F' H' g' → Tr J F H F' H' → Q b H') → tt σ H Q
def WO (J : JT G) (ds : DE) (g : G) (to : TO) (Φ : Option Int → G → Prop) : Prop :=
  ∀ (F H : Hp) (σ : St), J.Ok F H g → Env F σ ds → ∀ Q : Option Int → Hp → Prop, (∀ b F' H' g', Φ b g' → J.Ok F' H' g' → Tr J F H F' H' → Q b H') → to σ H Q
/-- a target: the slots behind it -/
def WG (J : JT G) (ds : DE) (g : G) (tg : TG) (x : Dv) (Φ : DE → G → Prop) : Prop :=
  ∀ (F H : Hp) (σ : St) (v : V), J.Ok F H g → Env F σ ds → Dt F v x → ∀ Q : St → Hp → Prop, (∀ σ' ds' F' H' g', Φ ds' g' → J.Ok F' H' g' → Tr J F H F' H' → Env F' σ' ds' → Q σ' H') → tg v σ H Q
def WGs (J : JT G) (ds : DE) (g : G) (tg : TGs) (xs : List Dv) (Φ : DE → G → Prop) : Prop :=
  ∀ (F H : Hp) (σ : St) (vs : List V), J.Ok F H g → Env F σ ds → DtAll F vs xs → ∀ Q : St → Hp → Prop, (∀ σ' ds' F' H' g', Φ ds' g' → J.Ok F' H' g' → Tr J F H F' H' → Env F' σ' ds' → Q σ' H') → tg vs σ H Q
/-- by values: an operator, a one-place one, a call, a method -/
def RO (J : JT G) (r : R2) (x y : Dv) (g : G) (Φ : Dv → G → Prop) : Prop :=
  ∀ (F H : Hp) (v w : V), J.Ok F H g → Dt F v x → Dt F w y → ∀ Q : VK, (∀ u d F' H' g', Φ d g' → J.Ok F' H' g' → Tr J F H F' H' → Dt F' u d → Q u H') → r v w H Q
def RU (J : JT G) (r : V → Hp → VK → Prop) (x : Dv) (g : G) (Φ : Dv → G → Prop) : Prop :=
  ∀ (F H : Hp) (v : V), J.Ok F H g → Dt F v x → ∀ Q : VK, (∀ u d F' H' g', Φ d g' → J.Ok F' H' g' → Tr J F H F' H' → Dt F' u d → Q u H') → r v H Q
def RC (J : JT G) (r : List V → Hp → VK → Prop) (es : List Dv) (g : G) (Φ : Dv → G → Prop) : Prop :=
  ∀ (F H : Hp) (vs : List V), J.Ok F H g → DtAll F vs es → ∀ Q : VK, (∀ u d F' H' g', Φ d g' → J.Ok F' H' g' → Tr J F H F' H' → Dt F' u d → Q u H') → r vs H Q
def RM (J : JT G) (r : V → List V → Hp → VK → Prop) (x : Dv) (es : List Dv) (g : G) (Φ : Dv → G → Prop) : Prop :=
  ∀ (F H : Hp) (v : V) (vs : List V), J.Ok F H g → Dt F v x → DtAll F vs es → ∀ Q : VK, (∀ u d F' H' g', Φ d g' → J.Ok F' H' g' → Tr J F H F' H' → Dt F' u d → Q u H') → r v vs H Q
def RS (J : JT G) (r : V → Option Int → Option Int → Hp → VK → Prop) (x : Dv) (lo hi : Option Int) (g : G) (Φ : Dv → G → Prop) : Prop :=
  ∀ (F H : Hp) (v : V), J.Ok F H g → Dt F v x → ∀ Q : VK, (∀ u d F' H' g', Φ d g' → J.Ok F' H' g' → Tr J F H F' H' → Dt F' u d → Q u H') → r v lo hi H Q

variable {J : JT G} {ds : DE} {g : G} {Φ : Dv → G → Prop} {ta tb te : TE} {x y : Dv}
/-! ### expressions -/
theorem we_var {i : Nat} {d : Dv} [c : GetC ds i d] (k : Φ d g) : WE J ds g (tVar i) Φ := fun F H σ o e Q q => by
  have h := c.h
  obtain ⟨v, h1, h2⟩ := e.get h
  exact ⟨v, h1, q v d F H g k o Tr.refl h2⟩
theorem we_int {i : Int} (k : Φ (.int i) g) : WE J ds g (tC (.int i)) Φ := fun F H σ o e Q q => q _ _ F H g k o Tr.refl (.int i)
theorem we_bl {i : Bool} (k : Φ (.bl i) g) : WE J ds g (tC (.bl i)) Φ := fun F H σ o e Q q => q _ _ F H g k o Tr.refl (.bl i)
theorem we_str {i : Str} (k : Φ (.str i) g) : WE J ds g (tC (.str i)) Φ := fun F H σ o e Q q => q _ _ F H g k o Tr.refl (.str i)
theorem we_non (k : Φ .non g) : WE J ds g (tC .non) Φ := fun F H σ o e Q q => q _ _ F H g k o Tr.refl .non
theorem WE.imp {Φ' : Dv → G → Prop} (h : WE J ds g te Φ) (k : ∀ d g', Φ d g' → Φ' d g') : WE J ds g te Φ' := fun F H σ o e Q q => h F H σ o e Q fun v d F' H' g' p => q v d F' H' g' (k d g' p)
theorem we_op {r : R2} (h : WE J ds g ta fun x g1 => WE J ds g1 tb fun y g2 => RO J r x y g2 Φ) : WE J ds g (tOp r ta tb) Φ := fun F H σ o e Q q =>
  h F H σ o e _ fun v x F1 H1 g1 h1 o1 t1 d1 => h1 F1 H1 σ o1 (e.mono t1.f) _ fun w y F2 H2 g2 h2 o2 t2 d2 =>
    h2 F2 H2 v w o2 (d1.mono t2.f) d2 Q fun u d F3 H3 g3 h3 o3 t3 d3 => q u d F3 H3 g3 h3 o3 ((t1.trans t2).trans t3) d3
theorem we_un {r : V → Hp → VK → Prop} (h : WE J ds g ta fun x g1 => RU J r x g1 Φ) : WE J ds g (tUn r ta) Φ := fun F H σ o e Q q =>
  h F H σ o e _ fun v x F1 H1 g1 h1 o1 t1 d1 => h1 F1 H1 v o1 d1 Q fun u d F3 H3 g3 h3 o3 t3 d3 => q u d F3 H3 g3 h3 o3 (t1.trans t3) d3
theorem wa_nil {Φ : List Dv → G → Prop} (k : Φ [] g) : WA J ds g tNil Φ := fun F H σ o e Q q => q _ _ F H g k o Tr.refl .nil
theorem wa_cons {Φ : List Dv → G → Prop} {tr : TA} (h : WE J ds g ta fun x g1 => WA J ds g1 tr fun es g2 => Φ (x :: es) g2) : WA J ds g (tCons ta tr) Φ := fun F H σ o e Q q =>
  h F H σ o e _ fun v x F1 H1 g1 h1 o1 t1 d1 => h1 F1 H1 σ o1 (e.mono t1.f) _ fun vs es F2 H2 g2 h2 o2 t2 d2 => q _ _ F2 H2 g2 h2 o2 (t1.trans t2) (.cons (d1.mono t2.f) d2)
theorem sz1000 {n : Nat} (h : n ≤ 100000) : n ≤ sizeLine := Nat.le_trans h (by decide)
theorem sz1001 {n : Nat} (h : n < 100000) : n < sizeLine := Nat.lt_of_lt_of_le h (by decide)
/-- a new thing is laid -/
theorem fin_new {F H F' H' : Hp} {g' : G} {Q : VK} {d : Dv} {ob : HO} {Φ : Dv → G → Prop} (q : ∀ v d F' H' g', Φ d g' → J.Ok F' H' g' → Tr J F H F' H' → Dt F' v d → Q v H') (k : Φ d g') (o1 : J.Ok F' H' g') (t1 : Tr J F H F' H')
    (hd : ∀ p F2, Same F' F2 → F2 p = some ob → Dt F2 (.ref p) d) : ∀ p, H' p = none → Q (.ref p) (upd H' p ob) := fun p hp =>
  q (.ref p) d (upd F' p ob) (upd H' p ob) g' k (o1.alloc hp) (t1.trans (Tr.alloc o1 hp)) (hd p _ (Tr.alloc o1 hp).f upd_same)
theorem we_tup {t : TA} (h : WA J ds g t fun es g' => es.length ≤ 100000 ∧ Φ (.tup es) g') : WE J ds g (tTup t) Φ := fun F H σ o e Q q =>
  h F H σ o e _ fun vs es F1 H1 g1 h1 o1 t1 d1 => ⟨sz1000 (by rw [d1.length]; exact h1.1), fin_new q h1.2 o1 t1 fun p F2 s e => .tup (.inl e) (d1.mono s)⟩
theorem we_lst {t : TA} (h : WA J ds g t fun es g' => es.length ≤ 100000 ∧ Φ (.lst es) g') : WE J ds g (tLst t) Φ := fun F H σ o e Q q =>
  h F H σ o e _ fun vs es F1 H1 g1 h1 o1 t1 d1 => ⟨sz1000 (by rw [d1.length]; exact h1.1), fin_new q h1.2 o1 t1 fun p F2 s e => .lst e (d1.mono s)⟩
theorem we_cb {r : List V → Hp → VK → Prop} {t : TA} (h : WA J ds g t fun es g' => RC J r es g' Φ) : WE J ds g (tCB r t) Φ := fun F H σ o e Q q =>
  h F H σ o e _ fun vs es F1 H1 g1 h1 o1 t1 d1 => h1 F1 H1 vs o1 d1 Q fun u d F3 H3 g3 h3 o3 t3 d3 => q u d F3 H3 g3 h3 o3 (t1.trans t3) d3
/-- an own def's promise over data -/
abbrev DS := ∀ (G : Type) (J : JT G), List Dv → G → (Dv → G → Prop) → Prop
def spD (S : DS) : Sp := fun vs H Q _ => ∃ (G : Type) (J : JT G) (F : Hp) (g : G) (es : List Dv) (Φ : Dv → G → Prop), J.Ok F H g ∧ DtAll F vs es ∧ S G J es g Φ ∧
  ∀ v d F' H' g', Φ d g' → J.Ok F' H' g' → Tr J F H F' H' → Dt F' v d → Q v H'
theorem we_call {S : DS} {E : XK} {t : TA} (h : WA J ds g t fun es g' => S G J es g' Φ) : WE J ds g (tCall (spD S) [] E t) Φ := fun F H σ o e Q q =>
  h F H σ o e _ fun vs es F1 H1 g1 h1 o1 t1 d1 => by
    rw [List.append_nil]
    exact ⟨G, J, F1, g1, es, Φ, o1, d1, h1, fun u d F3 H3 g3 h3 o3 t3 d3 => q u d F3 H3 g3 h3 o3 (t1.trans t3) d3⟩
theorem wo_none {Φ : Option Int → G → Prop} (k : Φ none g) : WO J ds g tNoPart Φ := fun F H σ o e Q q => q none F H g k o Tr.refl
theorem wo_some {Φ : Option Int → G → Prop} (h : WE J ds g te fun d g' => ∃ i, d = .int i ∧ Φ (some i) g') : WO J ds g (tPart te) Φ := fun F H σ o e Q q =>
  h F H σ o e _ fun v d F1 H1 g1 h1 o1 t1 d1 => by
    obtain ⟨i, rfl, k⟩ := h1
    cases d1
    exact ⟨i, rfl, q _ F1 H1 g1 k o1 t1⟩
theorem we_sl {r : V → Option Int → Option Int → Hp → VK → Prop} {tl th : TO} (h : WE J ds g te fun x g1 => WO J ds g1 tl fun l g2 => WO J ds g2 th fun u g3 => RS J r x l u g3 Φ) : WE J ds g (tSl r te tl th) Φ := fun F H σ o e Q q =>
  h F H σ o e _ fun v x F1 H1 g1 h1 o1 t1 d1 => h1 F1 H1 σ o1 (e.mono t1.f) _ fun l F2 H2 g2 h2 o2 t2 => h2 F2 H2 σ o2 (e.mono (t1.trans t2).f) _ fun u F3 H3 g3 h3 o3 t3 =>
    h3 F3 H3 v o3 (d1.mono (t2.trans t3).f) Q fun w d F4 H4 g4 h4 o4 t4 d4 => q w d F4 H4 g4 h4 o4 (((t1.trans t2).trans t3).trans t4) d4
theorem we_dget {td ty : TE} (h : WE J ds g td fun x g1 => WE J ds g1 ty fun y g2 => ∃ ks k d, x = .dic ks ∧ (y = .str k) ∧ lookD ks (Sum.inr k) = some d ∧ Φ d g2) : WE J ds g (tDGet td ty) Φ := fun F H σ o e Q q =>
  h F H σ o e _ fun v x F1 H1 g1 h1 o1 t1 d1 => h1 F1 H1 σ o1 (e.mono t1.f) _ fun w y F2 H2 g2 h2 o2 t2 d2 => by
    obtain ⟨ks, k, d, rfl, rfl, hl, kk⟩ := h2
    cases d2
    have d1' := d1.mono t2.f
    cases d1' with
    | dic ha hk =>
      obtain ⟨u, hu, du⟩ := hk.look hl
      refine ⟨_, u, rfl, ?_, q u d F2 H2 g2 kk o2 (t1.trans t2) du⟩
      exact .inl ⟨_, Sum.inr k, .inl (o2.ex _ _ ha), rfl, hu.symm⟩
theorem we_dget2 {td ty tx : TE} (h : WE J ds g td fun x g1 => ∃ ks, x = .dic ks ∧ WE J ds g1 ty fun y g2 => WE J ds g2 tx fun z g3 => ∃ k, (y = .str k) ∧ Φ ((lookD ks (Sum.inr k)).getD z) g3) : WE J ds g (tDGet2 td ty tx) Φ := fun F H σ o e Q q =>
  h F H σ o e _ fun v x F1 H1 g1 h1 o1 t1 d1 => by
    obtain ⟨ks, rfl, h1⟩ := h1
    cases d1 with
    | @dic a kvs _ ha hk =>
      refine ⟨a, rfl, .inl ⟨_, .inl (o1.ex _ _ ha)⟩, h1 F1 H1 σ o1 (e.mono t1.f) _ fun w y F2 H2 g2 h2 o2 t2 d2 => h2 F2 H2 σ o2 (e.mono (t1.trans t2).f) _ fun w2 z F3 H3 g3 h3 o3 t3 d3 => ?_⟩
      obtain ⟨k, rfl, kk⟩ := h3
      cases d2
      have ha3 := (t2.trans t3).f _ _ ha
      have hk3 := hk.mono (t2.trans t3).f
      refine ⟨valV kvs (Sum.inr k), .inl ⟨_, Sum.inr k, .inl (o3.ex _ _ ha3), rfl, rfl⟩, ?_⟩
      cases el : lookD ks (Sum.inr k) with
      | none =>
        rw [hk3.miss el]
        rw [el] at kk
        exact q _ z F3 H3 g3 kk o3 ((t1.trans t2).trans t3) d3
      | some d =>
        obtain ⟨u, hu, du⟩ := hk3.look el
        rw [hu]
        rw [el] at kk
        exact q u d F3 H3 g3 kk o3 ((t1.trans t2).trans t3) du
/-! ### a displayed dict -/
def WPs (J : JT G) (ds : DE) (g : G) (trs : List (TE × TE)) (Φ : List (Dv × Dv) → G → Prop) : Prop :=
  ∀ (F H : Hp) (σ : St), J.Ok F H g → Env F σ ds → ∀ Q : List (V × V) → Hp → Prop, (∀ ps es F' H' g', Φ es g' → J.Ok F' H' g' → Tr J F H F' H' → Paired (fun p e => Dt F' p.1 e.1 ∧ Dt F' p.2 e.2) ps es → Q ps H') → tPairs trs σ H Q
theorem wp_nil {Φ : List (Dv × Dv) → G → Prop} (k : Φ [] g) : WPs J ds g [] Φ := fun F H σ o e Q q => q _ _ F H g k o Tr.refl .nil
theorem wp_cons {Φ : List (Dv × Dv) → G → Prop} {trs : List (TE × TE)} (h : WE J ds g ta fun x g1 => WE J ds g1 tb fun y g2 => WPs J ds g2 trs fun es g3 => Φ ((x, y) :: es) g3) : WPs J ds g ((ta, tb) :: trs) Φ := fun F H σ o e Q q =>
  h F H σ o e _ fun v x F1 H1 g1 h1 o1 t1 d1 => h1 F1 H1 σ o1 (e.mono t1.f) _ fun w y F2 H2 g2 h2 o2 t2 d2 => h2 F2 H2 σ o2 (e.mono (t1.trans t2).f) _ fun ps es F3 H3 g3 h3 o3 t3 d3 =>
    q _ _ F3 H3 g3 h3 o3 ((t1.trans t2).trans t3) (.cons ⟨d1.mono (t2.trans t3).f, d2.mono t3.f⟩ d3)
/-- the keys, written texts -/
def strKs : List (Dv × Dv) → Option (List (Key × Dv))
  | [] => some []
  | (.str k, d) :: r => match strKs r with
    | some q => some ((Sum.inr k, d) :: q)
    | none => none
  | _ => none
theorem strKs_kv {F : Hp} : ∀ {ps : List (V × V)} {es : List (Dv × Dv)} {ks : List (Key × Dv)}, Paired (fun p e => Dt F p.1 e.1 ∧ Dt F p.2 e.2) ps es → strKs es = some ks → ∃ kvs : List (Key × V), ps = kvs.map (fun kv => (kV kv.1, kv.2)) ∧ DtKV F kvs ks
  | [], [], ks, .nil, h => by
    cases h
    exact ⟨[], rfl, .nil⟩
  | (v, w) :: ps, (x, y) :: es, ks, .cons p t, h => by
    obtain ⟨p1, p2⟩ := p
    cases p1 <;> try (simp [strKs] at h)
    rename_i s
    cases e : strKs es with
    | none => simp [e] at h
    | some q =>
      simp only [e] at h
      obtain rfl := Option.some.inj h
      obtain ⟨kvs, e1, e2⟩ := strKs_kv t e
      exact ⟨(Sum.inr s, w) :: kvs, by rw [e1]; rfl, .cons p2 e2⟩
theorem DtKV.length {F : Hp} : ∀ {vs : List (Key × V)} {ds : List (Key × Dv)}, DtKV F vs ds → vs.length = ds.length
  | _, _, .nil => rfl
  | _, _, .cons _ t => by simp [DtKV.length t]
def keysOf (ks : List (Key × Dv)) : List Key := ks.map (·.1)
theorem DtKV.keys {F : Hp} : ∀ {vs : List (Key × V)} {ds : List (Key × Dv)}, DtKV F vs ds → vs.map (·.1) = keysOf ds
  | _, _, .nil => rfl
  | _, _, .cons _ t => by simp [keysOf, DtKV.keys t] <;> exact DtKV.keys t
theorem valV_none_of {kvs : List (Key × V)} {k : Key} (h : k ∉ kvs.map (·.1)) : valV kvs k = none := by
  induction kvs with
  | nil => rfl
  | cons p r ih =>
    simp only [List.map_cons, List.mem_cons, not_or] at h
    rw [valV_neg (fun e => h.1 e.symm)]
    exact ih h.2
theorem merge_nodup : ∀ (more acc : List (Key × V)), ((acc ++ more).map (·.1)).Nodup → mergeK acc more = acc ++ more
  | [], acc, _ => by simp [mergeK]
  | p :: r, acc, h => by
    have h1 : valV acc p.1 = none := valV_none_of (by
      rw [List.map_append, List.nodup_append] at h
      intro m
      exact h.2.2 _ m _ (by simp) rfl)
    have h2 := merge_nodup r (acc ++ [p]) (by simpa using h)
    unfold mergeK at h2 ⊢
    rw [List.foldl_cons, putK_new _ h1, h2]
    simp
theorem we_disp {trs : List (TE × TE)} (h : WPs J ds g trs fun es g' => ∃ ks, strKs es = some ks ∧ ks.length ≤ 15 ∧ (keysOf ks).Nodup ∧ Φ (.dic ks) g') : WE J ds g (tDisp trs) Φ := fun F H σ o e Q q p hp => by
  have o0 := o.put0 (p := p) (o := .dK []) (o.fnone hp) (o.nomem hp)
  refine h F (upd H p (.dK [])) σ o0 e _ fun ps es F1 H1 g1 h1 o1 t1 d1 => ?_
  obtain ⟨ks, e1, hl, hn, k⟩ := h1
  obtain ⟨kvs, e2, dk⟩ := strKs_kv d1 e1
  have np := o.nomem hp
  have hp1 : H1 p = some (.dK []) := t1.h p _ upd_same np
  have fp1 : F1 p = none := t1.n p (by rw [upd_same]; exact fun z => nomatch z) (o.fnone hp)
  refine ⟨hp1, kvs, e2, by rw [dk.length]; exact hl, ?_⟩
  rw [merge_nodup kvs [] (by rw [List.nil_append, dk.keys]; exact hn), List.nil_append]
  have tr : Tr J F H (upd F1 p (.dK kvs)) (upd H1 p (.dK kvs)) := by
    refine ⟨fun a u ha => ?_, fun a u ha m => ?_, fun a ha n => ?_, fun a ha => ?_⟩
    · have q := t1.f a u ha
      rw [upd_ne (ne_of_none q fp1)]; exact q
    · have ne := ne_of_none ha hp
      rw [upd_ne ne]; exact t1.h a u (by rw [upd_ne ne]; exact ha) m
    · have ne : a ≠ p := fun z => ha (by rw [z]; exact hp)
      rw [upd_ne ne]; exact t1.n a (by rw [upd_ne ne]; exact ha) n
    · have ne : a ≠ p := fun z => ha (by rw [z]; exact hp)
      rw [upd_ne ne]; exact t1.k a (by rw [upd_ne ne]; exact ha)
  exact q _ _ _ _ g1 k (o1.put fp1 np) tr (.dic upd_same (dk.mono (fun a u ha => by rw [upd_ne (ne_of_none ha fp1)]; exact ha)))

/-! ### tests -/
variable {tt tu : TT} {Ψ : Bool → G → Prop}
theorem wt_test (h : WE J ds g te fun d g' => ∃ b, d = .bl b ∧ Ψ b g') : WT J ds g (tTest te) Ψ := fun F H σ o e Q q =>
  h F H σ o e _ fun v d F1 H1 g1 h1 o1 t1 d1 => by
    obtain ⟨b, rfl, k⟩ := h1
    cases d1
    exact ⟨b, rfl, q b F1 H1 g1 k o1 t1⟩
theorem wt_B (h : WE J ds g te fun d g' => ∃ b, d = .bl b ∧ Ψ b g') : WT J ds g (tB te) Ψ := fun F H σ o e Q q =>
  h F H σ o e _ fun v d F1 H1 g1 h1 o1 t1 d1 => by
    obtain ⟨b, rfl, k⟩ := h1
    cases d1
    exact ⟨b, rfl, q b F1 H1 g1 k o1 t1⟩
theorem wt_yes (k : Ψ true g) : WT J ds g tYes Ψ := fun F H σ o e Q q => q true F H g k o Tr.refl
theorem wt_not (h : WT J ds g tt fun b g' => Ψ (!b) g') : WT J ds g (tNot tt) Ψ := fun F H σ o e Q q => h F H σ o e _ fun b F1 H1 g1 h1 o1 t1 => q _ F1 H1 g1 h1 o1 t1
theorem wt_and (h : WT J ds g tt fun b g1 => (b = true → WT J ds g1 tu Ψ) ∧ (b = false → Ψ false g1)) : WT J ds g (tAnd tt tu) Ψ := fun F H σ o e Q q =>
  h F H σ o e _ fun b F1 H1 g1 h1 o1 t1 => by
    cases b with
    | true =>
      show tu σ H1 Q
      exact h1.1 rfl F1 H1 σ o1 (e.mono t1.f) Q fun c F2 H2 g2 h2 o2 t2 => q c F2 H2 g2 h2 o2 (t1.trans t2)
    | false =>
      show Q false H1
      exact q false F1 H1 g1 (h1.2 rfl) o1 t1
theorem wt_or (h : WT J ds g tt fun b g1 => (b = true → Ψ true g1) ∧ (b = false → WT J ds g1 tu Ψ)) : WT J ds g (tOr tt tu) Ψ := fun F H σ o e Q q =>
  h F H σ o e _ fun b F1 H1 g1 h1 o1 t1 => by
    cases b with
    | true =>
      show Q true H1
      exact q true F1 H1 g1 (h1.1 rfl) o1 t1
    | false =>
      show tu σ H1 Q
      exact h1.2 rfl F1 H1 σ o1 (e.mono t1.f) Q fun c F2 H2 g2 h2 o2 t2 => q c F2 H2 g2 h2 o2 (t1.trans t2)
theorem we_andV (h : WE J ds g ta fun d g1 => ∃ b, d = .bl b ∧ (b = true → WE J ds g1 tb Φ) ∧ (b = false → Φ (.bl false) g1)) : WE J ds g (tAndV ta tb) Φ := fun F H σ o e Q q =>
  h F H σ o e _ fun v d F1 H1 g1 h1 o1 t1 d1 => by
    obtain ⟨b, rfl, k1, k2⟩ := h1
    cases d1
    refine ⟨b, rfl, ?_⟩
    cases b with
    | true =>
      show tb σ H1 Q
      exact k1 rfl F1 H1 σ o1 (e.mono t1.f) Q fun c d F2 H2 g2 h2 o2 t2 d2 => q c d F2 H2 g2 h2 o2 (t1.trans t2) d2
    | false =>
      show Q (.bl false) H1
      exact q _ _ F1 H1 g1 (k2 rfl) o1 t1 (.bl _)
theorem we_orV (h : WE J ds g ta fun d g1 => ∃ b, d = .bl b ∧ (b = true → Φ (.bl true) g1) ∧ (b = false → WE J ds g1 tb Φ)) : WE J ds g (tOrV ta tb) Φ := fun F H σ o e Q q =>
  h F H σ o e _ fun v d F1 H1 g1 h1 o1 t1 d1 => by
    obtain ⟨b, rfl, k1, k2⟩ := h1
    cases d1
    refine ⟨b, rfl, ?_⟩
    cases b with
    | true =>
      show Q (.bl true) H1
      exact q _ _ F1 H1 g1 (k1 rfl) o1 t1 (.bl _)
    | false =>
      show tb σ H1 Q
      exact k2 rfl F1 H1 σ o1 (e.mono t1.f) Q fun c d F2 H2 g2 h2 o2 t2 d2 => q c d F2 H2 g2 h2 o2 (t1.trans t2) d2
theorem we_notV (h : WE J ds g ta fun d g1 => ∃ b, d = .bl b ∧ Φ (.bl (!b)) g1) : WE J ds g (tNotV ta) Φ := fun F H σ o e Q q =>
  h F H σ o e _ fun v d F1 H1 g1 h1 o1 t1 d1 => by
    obtain ⟨b, rfl, k1⟩ := h1
    cases d1
    exact ⟨b, rfl, q _ _ F1 H1 g1 k1 o1 t1 (.bl _)⟩

/-! ### targets -/
variable {Γ : DE → G → Prop}
theorem wg_name {i : Nat} {f : Dv → DE} [c : SetF ds i f] (k : Γ (f x) g) : WG J ds g (gName i) x Γ := fun F H σ v o e d Q q => q _ _ F H g k o Tr.refl (by rw [← c.h]; exact e.set d i)
theorem wgs_nil (k : Γ ds g) : WGs J ds g gNil [] Γ := fun F H σ v o e d Q q => by
  cases d
  exact ⟨rfl, q _ _ F H g k o Tr.refl e⟩
theorem wgs_cons {t : TG} {u : TGs} {xs : List Dv} (h : WG J ds g t x fun ds' g' => WGs J ds' g' u xs Γ) : WGs J ds g (gCons t u) (x :: xs) Γ := fun F H σ v o e d Q q => by
  cases d with
  | cons d1 dr =>
    exact ⟨_, _, rfl, h F H σ _ o e d1 _ fun σ' ds' F' H' g' h' o' t' e' => h' F' H' σ' _ o' e' (dr.mono t'.f) Q fun σ2 ds2 F2 H2 g2 h2 o2 t2 e2 => q σ2 ds2 F2 H2 g2 h2 o2 (t'.trans t2) e2⟩
theorem wg_tup {K : PySem.W.Frag} {n : Nat} {t : TGs} {xs : List Dv} (hh : xs.length = n ∧ WGs J ds g t xs Γ) : WG J ds g (gTup K n t) (.tup xs) Γ := fun F H σ v o e d Q q => by
  obtain ⟨hn, h⟩ := hh
  cases d with
  | @tup a vs _ ha da => exact ⟨a, vs, rfl, .inl (rd_same o.ex ha), by rw [da.length]; exact hn, h F H σ vs o e da Q q⟩

/-! ### statements -/
structure Es (G : Type) where
  nx : DE → G → Prop
  rt : Dv → G → Prop
  bk : DE → G → Prop := fun _ _ => False
  ct : DE → G → Prop := fun _ _ => False
def WS (J : JT G) (ds : DE) (g : G) (t : TS) (E : Es G) : Prop :=
  ∀ (F H : Hp) (σ : St), J.Ok F H g → Env F σ ds → ∀ D : Ends, (∀ σ' ds' F' H' g', E.nx ds' g' → J.Ok F' H' g' → Tr J F H F' H' → Env F' σ' ds' → D.nx σ' H') →
    (∀ v d F' H' g', E.rt d g' → J.Ok F' H' g' → Tr J F H F' H' → Dt F' v d → D.rt v H') → (∀ σ' ds' F' H' g', E.bk ds' g' → J.Ok F' H' g' → Tr J F H F' H' → Env F' σ' ds' → D.bk σ' H') →
    (∀ σ' ds' F' H' g', E.ct ds' g' → J.Ok F' H' g' → Tr J F H F' H' → Env F' σ' ds' → D.ct σ' H') → t D σ H
variable {E : Es G} {t u : TS}
theorem ws_next (k : E.nx ds g) : WS J ds g tNext E := fun F H σ o e D n r b c => n σ ds F H g k o Tr.refl e
theorem ws_brk (k : E.bk ds g) : WS J ds g tBreak E := fun F H σ o e D n r b c => b σ ds F H g k o Tr.refl e
theorem ws_cont (k : E.ct ds g) : WS J ds g tCont E := fun F H σ o e D n r b c => c σ ds F H g k o Tr.refl e
theorem ws_seq (h : WS J ds g t { E with nx := fun ds' g' => WS J ds' g' u E }) : WS J ds g (tSeq t u) E := fun F H σ o e D n r b c =>
  h F H σ o e { D with nx := u D } (fun σ' ds' F' H' g' h' o' t' e' => h' F' H' σ' o' e' D (fun σ2 ds2 F2 H2 g2 h2 o2 t2 e2 => n σ2 ds2 F2 H2 g2 h2 o2 (t'.trans t2) e2) (fun v d F2 H2 g2 h2 o2 t2 e2 => r v d F2 H2 g2 h2 o2 (t'.trans t2) e2)
    (fun σ2 ds2 F2 H2 g2 h2 o2 t2 e2 => b σ2 ds2 F2 H2 g2 h2 o2 (t'.trans t2) e2) (fun σ2 ds2 F2 H2 g2 h2 o2 t2 e2 => c σ2 ds2 F2 H2 g2 h2 o2 (t'.trans t2) e2)) r b c
theorem ws_asg {tg : TG} (h : WE J ds g te fun d g' => WG J ds g' tg d E.nx) : WS J ds g (tAsg te tg) E := fun F H σ o e D n r b c =>
  h F H σ o e _ fun v d F1 H1 g1 h1 o1 t1 d1 => h1 F1 H1 σ v o1 (e.mono t1.f) d1 _ fun σ2 ds2 F2 H2 g2 h2 o2 t2 e2 => n σ2 ds2 F2 H2 g2 h2 o2 (t1.trans t2) e2
theorem ws_set {i : Nat} {f : Dv → DE} [c : SetF ds i f] (h : WE J ds g te fun d g' => E.nx (f d) g') : WS J ds g (tAsg te (gName i)) E := ws_asg (h.imp fun _ _ k => wg_name k)
theorem ws_init {ds' : DE} (h : ds = ds') (k : WS J ds' g t E) : WS J ds g t E := by
  rw [h]; exact k
theorem ws_drop (h : WE J ds g te fun _ g' => E.nx ds g') : WS J ds g (tDrop te) E := fun F H σ o e D n r b c => h F H σ o e _ fun v d F1 H1 g1 h1 o1 t1 d1 => n σ ds F1 H1 g1 h1 o1 t1 (e.mono t1.f)
theorem ws_ret (h : WE J ds g te E.rt) : WS J ds g (tRet te) E := fun F H σ o e D n r b c => h F H σ o e _ r
theorem ws_retN (k : E.rt .non g) : WS J ds g tRetN E := fun F H σ o e D n r b c => r _ _ F H g k o Tr.refl .non
theorem ws_if (h : WT J ds g tt fun b g' => (b = true → WS J ds g' t E) ∧ (b = false → WS J ds g' u E)) : WS J ds g (tIfS tt t u) E := fun F H σ o e D n r bk c =>
  h F H σ o e _ fun b F1 H1 g1 h1 o1 t1 => by
    have fin : ∀ w : TS, WS J ds g1 w E → w D σ H1 := fun w hw => hw F1 H1 σ o1 (e.mono t1.f) D (fun σ2 ds2 F2 H2 g2 h2 o2 t2 e2 => n σ2 ds2 F2 H2 g2 h2 o2 (t1.trans t2) e2) (fun v d F2 H2 g2 h2 o2 t2 e2 => r v d F2 H2 g2 h2 o2 (t1.trans t2) e2)
      (fun σ2 ds2 F2 H2 g2 h2 o2 t2 e2 => bk σ2 ds2 F2 H2 g2 h2 o2 (t1.trans t2) e2) (fun σ2 ds2 F2 H2 g2 h2 o2 t2 e2 => c σ2 ds2 F2 H2 g2 h2 o2 (t1.trans t2) e2)
    cases b with
    | true => exact fin t (h1.1 rfl)
    | false => exact fin u (h1.2 rfl)
/-! ### what is walked -/
structure Src (it : It) (F : Hp) (xs : List Dv) : Prop where
  go : ∀ (F' H' : Hp) (i : Nat), Same F F' → Same F' H' → i < xs.length → it.go i H'
  yld : ∀ (F' H' : Hp) (i : Nat) (v : V) (H2 : Hp), Same F F' → Same F' H' → it.yld i H' v H2 → i < xs.length → H2 = H' ∧ ∃ d, xs[i]? = some d ∧ Dt F' v d
  stop : ∀ (F' H' : Hp), Same F F' → Same F' H' → it.stop xs.length H'
def WI (J : JT G) (ds : DE) (g : G) (wi : TI) (Φ : List Dv → G → Prop) : Prop :=
  ∀ (F H : Hp) (σ : St), J.Ok F H g → Env F σ ds → ∀ R : It → Hp → Prop, (∀ it xs F' H' g', Φ xs g' → J.Ok F' H' g' → Tr J F H F' H' → Src it F' xs → R it H') → wi σ H R
theorem src_list {K : PySem.W.Frag} {F : Hp} {a : Addr} {vs : List V} {xs : List Dv} (h : F a = some (.lst vs)) (d : DtAll F vs xs) : Src (Itl K a) F xs where
  go := fun F' H' i s1 s2 hi => by
    have hv : i < vs.length := by rw [d.length]; exact hi
    exact ⟨vs, vs[i], .inl (.inl (s2 _ _ (s1 _ _ h))), List.getElem?_eq_getElem hv⟩
  yld := fun F' H' i v H2 s1 s2 y hi => by
    obtain ⟨e, f⟩ := y
    have g := f vs (.inl (.inl (s2 _ _ (s1 _ _ h))))
    obtain ⟨x, e1, e2⟩ := (d.mono s1).get' g
    exact ⟨e, x, e1, e2⟩
  stop := fun F' H' s1 s2 => ⟨vs, .inl (.inl (s2 _ _ (s1 _ _ h))), by rw [d.length]; exact Nat.le_refl _⟩
theorem src_tup {K : PySem.W.Frag} {F : Hp} {a : Addr} {vs : List V} {xs : List Dv} (h : Rd F a (.tup vs)) (d : DtAll F vs xs) : Src (Itt K a) F xs where
  go := fun F' H' i s1 s2 hi => by
    have hv : i < vs.length := by rw [d.length]; exact hi
    exact ⟨vs, vs[i], .inl (rd_same s2 (rd_same s1 h)), List.getElem?_eq_getElem hv⟩
  yld := fun F' H' i v H2 s1 s2 y hi => by
    obtain ⟨e, f⟩ := y
    have g := f vs (.inl (rd_same s2 (rd_same s1 h)))
    obtain ⟨x, e1, e2⟩ := (d.mono s1).get' g
    exact ⟨e, x, e1, e2⟩
  stop := fun F' H' s1 s2 => ⟨vs, .inl (rd_same s2 (rd_same s1 h)), by rw [d.length]; exact Nat.le_refl _⟩
def rngD (n : Nat) : List Dv := (List.range n).map fun (i : Nat) => Dv.int (i : Int)
theorem src_rng {F : Hp} {n : Nat} : Src (Itr 0 n) F (rngD n) where
  go := fun F' H' i s1 s2 hi => by
    have h : i < n := by simpa [rngD] using hi
    exact h
  yld := fun F' H' i v H2 s1 s2 y hi => by
    obtain ⟨e, f⟩ := y
    have hi' : i < n := by simpa [rngD] using hi
    refine ⟨e, .int (i : Int), by simp [rngD, hi'], ?_⟩
    rw [f, Int.zero_add]
    exact .int _
  stop := fun F' H' s1 s2 => by
    show n ≤ (rngD n).length
    simp [rngD]
variable {Λ : List Dv → G → Prop} {K : PySem.W.Frag}
theorem wi_list (h : WE J ds g te fun d g' => ∃ xs, d = .lst xs ∧ Λ xs g') : WI J ds g (iList K te) Λ := fun F H σ o e R q =>
  h F H σ o e _ fun v d F1 H1 g1 h1 o1 t1 d1 => by
    obtain ⟨xs, rfl, k⟩ := h1
    cases d1 with
    | lst ha da => exact ⟨_, rfl, ⟨_, .inl (.inl (o1.ex _ _ ha))⟩, q _ xs F1 H1 g1 k o1 t1 (src_list ha da)⟩
theorem wi_tup (h : WE J ds g te fun d g' => ∃ xs, d = .tup xs ∧ Λ xs g') : WI J ds g (iTup K te) Λ := fun F H σ o e R q =>
  h F H σ o e _ fun v d F1 H1 g1 h1 o1 t1 d1 => by
    obtain ⟨xs, rfl, k⟩ := h1
    cases d1 with
    | tup ha da => exact ⟨_, rfl, ⟨_, .inl (rd_same o1.ex ha)⟩, q _ xs F1 H1 g1 k o1 t1 (src_tup ha da)⟩
theorem wi_rng {t : TA} (h : WA J ds g t fun es g' => ∃ n : Nat, es = [.int (n : Int)] ∧ n ≤ 100000 ∧ Λ (rngD n) g') : WI J ds g (iRng1 t) Λ := fun F H σ o e R q =>
  h F H σ o e _ fun vs es F1 H1 g1 h1 o1 t1 d1 => by
    obtain ⟨n, rfl, hn, k⟩ := h1
    cases d1 with
    | cons d1 d2 =>
      cases d1
      cases d2
      exact ⟨(n : Int), rfl, by omega, by omega, q _ _ F1 H1 g1 k o1 t1 (by rw [Int.toNat_natCast]; exact src_rng)⟩
/-! ### for -/
theorem ws_for {wi : TI} {tg : TG} (h : WI J ds g wi fun xs g1 => ∃ I : Nat → DE → G → Prop, I 0 ds g1 ∧
      (∀ i x ds' g', xs[i]? = some x → I i ds' g' → WG J ds' g' tg x fun ds2 g2 => WS J ds2 g2 t { nx := I (i + 1), ct := I (i + 1), bk := E.nx, rt := E.rt }) ∧ (∀ ds' g', I xs.length ds' g' → E.nx ds' g')) : WS J ds g (tFor wi tg t) E := fun F H σ o e D n r b c =>
  h F H σ o e _ fun it xs F1 H1 g1 h1 o1 t1 sr => by
    obtain ⟨I, h0, hs, hd⟩ := h1
    refine ⟨fun i m σ' H' => m = xs.length - i ∧ i ≤ xs.length ∧ ∃ ds' F' g', I i ds' g' ∧ J.Ok F' H' g' ∧ Tr J F1 H1 F' H' ∧ Env F' σ' ds', ⟨xs.length, by simp, Nat.zero_le _, ds, F1, g1, h0, o1, Tr.refl, e.mono t1.f⟩, ?_⟩
    rintro i m σ' H' ⟨rfl, hi, ds', F', g', hI, o', t', e'⟩
    by_cases hlt : i < xs.length
    · refine .inr ⟨sr.go F' H' i t'.f o'.ex hlt, fun σ2 H2 => ∃ ds2 F2 g2, I (i + 1) ds2 g2 ∧ J.Ok F2 H2 g2 ∧ Tr J F1 H1 F2 H2 ∧ Env F2 σ2 ds2, fun σ2 H2 z => ⟨xs.length - (i + 1), by omega, rfl, hlt, z⟩, fun v H2 y => ?_⟩
      obtain ⟨rfl, x, hx, dx⟩ := sr.yld F' H' i v H2 t'.f o'.ex y hlt
      refine hs i x ds' g' hx hI F' _ σ' v o' e' dx _ fun σ3 ds3 F3 H3 g3 h3 o3 t3 e3 => ?_
      exact h3 F3 H3 σ3 o3 e3 _ (fun σ4 ds4 F4 H4 g4 h4 o4 t4 e4 => ⟨ds4, F4, g4, h4, o4, (t'.trans t3).trans t4, e4⟩) (fun w d F4 H4 g4 h4 o4 t4 e4 => r w d F4 H4 g4 h4 o4 (((t1.trans t').trans t3).trans t4) e4)
        (fun σ4 ds4 F4 H4 g4 h4 o4 t4 e4 => n σ4 ds4 F4 H4 g4 h4 o4 (((t1.trans t').trans t3).trans t4) e4) (fun σ4 ds4 F4 H4 g4 h4 o4 t4 e4 => ⟨ds4, F4, g4, h4, o4, (t'.trans t3).trans t4, e4⟩)
    · have ei : i = xs.length := by omega
      subst ei
      exact .inl ⟨sr.stop F' H' t'.f o'.ex, n σ' ds' F' H' g' (hd ds' g' hI) o' (t1.trans t') e'⟩
/-! ### list comprehensions: the accumulated list by the turn -/
/-- the targets that a comprehension here has: names of its own slots -/
structure TgOk (tg : TG) (vs : List Nat) (f : DE → Dv → Option DE) : Prop where
  go : ∀ (G : Type) (J : JT G) (g : G) (F H : Hp) (σ : St) (ds ds2 : DE) (v : V) (x : Dv), J.Ok F H g → Env F σ ds → Dt F v x → f (wipeD ds vs) x = some ds2 → ∀ Q : St → Hp → Prop,
    (∀ σ', L2.wipe σ' vs = L2.wipe σ vs → Env F σ' ds2 → Q σ' H) → tg v (L2.wipe σ vs) H Q
theorem set_none_idem {σ : St} {i : Nat} {o : Option V} : ((σ.set i none).set i o).set i none = σ.set i none := by simp [List.set_set]
theorem tg_name {i : Nat} : TgOk (gName i) [i] fun ds x => some (ds.set i (some x)) := ⟨fun G J g F H σ ds ds2 v x o e d hf Q q => by
  have hf := Option.some.inj hf
  subst hf
  refine q _ ?_ ((e.wipe [i]).set d i)
  show ((σ.set i none).set i (some v)).set i none = σ.set i none
  exact set_none_idem⟩
theorem tg_two {K : PySem.W.Frag} {i j : Nat} (hij : i ≠ j) : TgOk (gTup K 2 (gCons (gName i) (gCons (gName j) gNil))) [i, j] fun ds x => match x with
    | .tup [a, b] => some ((ds.set i (some a)).set j (some b))
    | _ => none := ⟨fun G J g F H σ ds ds2 v x o e d hf Q q => by
  cases d <;> try (simp at hf)
  rename_i a xs es ha da
  cases da with
  | nil => simp at hf
  | cons d1 da =>
    cases da with
    | nil => simp at hf
    | cons d2 da =>
      cases da with
      | cons _ _ => simp at hf
      | nil =>
        simp only [Option.some.injEq] at hf
        subst hf
        refine ⟨_, _, rfl, .inl (rd_same o.ex ha), rfl, _, _, rfl, _, _, rfl, rfl, q _ ?_ (((e.wipe [i, j]).set d1 i).set d2 j)⟩
        show (((((σ.set j none).set i none).set i (some _)).set j (some _)).set j none).set i none = (σ.set j none).set i none
        refine List.ext_getElem? fun k => ?_
        by_cases h1 : i = k
        · subst h1
          simp [List.getElem?_set, hij.symm] <;> (intros; split <;> simp_all)
        · by_cases h2 : j = k
          · subst h2
            simp [List.getElem?_set, h1]
          · simp [List.getElem?_set, h1, h2]⟩
theorem we_lc {wi : TI} {tg : TG} {vs : List Nat} {f : DE → Dv → Option DE} (ht : TgOk tg vs f)
    (h : WI J ds g wi fun xs g1 => xs.length ≤ 50000 ∧ ∃ I : Nat → List Dv → G → Prop, I 0 [] g1 ∧
      (∀ i x acc g', xs[i]? = some x → I i acc g' → ∃ ds2, f (wipeD ds vs) x = some ds2 ∧ WT J ds2 g' tt fun b g2 => (b = true → WE J ds2 g2 te fun d g3 => I (i + 1) (acc ++ [d]) g3) ∧ (b = false → I (i + 1) acc g2)) ∧
      (∀ acc g', I xs.length acc g' → Φ (.lst acc) g')) : WE J ds g (tLc wi tg tt te vs) Φ := fun F H σ o e Q q =>
  h F H σ o e _ fun it xs F1 H1 g1 h1 o1 t1 sr => by
    obtain ⟨hz, I, h0, hs, hd⟩ := h1
    intro p hp
    have np := o1.nomem hp
    have fp := o1.fnone hp
    have hp0 : H p = none := by
      cases z : H p with
      | none => rfl
      | some u => exact absurd hp (t1.k p (by rw [z]; exact fun w => nomatch w))
    have tput : ∀ {F' H' : Hp} (u : HO), Tr J F1 H1 F' H' → Tr J F1 H1 F' (upd H' p u) := fun {F' H'} u t => by
      refine ⟨t.f, fun a w ha m => ?_, t.n, fun a ha => ?_⟩
      · rw [upd_ne (ne_of_none ha hp)]; exact t.h a w ha m
      · have ne : a ≠ p := fun z => ha (by rw [z]; exact hp)
        rw [upd_ne ne]; exact t.k a ha
    refine ⟨fun i m H' => m = xs.length - i ∧ i ≤ xs.length ∧ ∃ vs' acc F' g', acc.length ≤ i ∧ I i acc g' ∧ J.Ok F' H' g' ∧ Tr J F1 H1 F' H' ∧ H' p = some (.lst vs') ∧ F' p = none ∧ DtAll F' vs' acc,
      ⟨xs.length, by simp, Nat.zero_le _, [], [], F1, g1, Nat.le_refl _, h0, o1.put0 fp np, tput _ Tr.refl, upd_same, fp, .nil⟩, ?_⟩
    rintro i m H' ⟨rfl, hi, ws, acc, F', g', hl, hI, o', t', hp', fp', da⟩
    by_cases hlt : i < xs.length
    · refine .inr ⟨sr.go F' H' i t'.f o'.ex hlt, fun H2 => ∃ vs' acc F2 g2, acc.length ≤ i + 1 ∧ I (i + 1) acc g2 ∧ J.Ok F2 H2 g2 ∧ Tr J F1 H1 F2 H2 ∧ H2 p = some (.lst vs') ∧ F2 p = none ∧ DtAll F2 vs' acc,
        fun H2 z => ⟨xs.length - (i + 1), by omega, rfl, hlt, z⟩, fun v H2 y => ?_⟩
      obtain ⟨rfl, x, hx, dx⟩ := sr.yld F' H' i v H2 t'.f o'.ex y hlt
      obtain ⟨ds2, hf, hw⟩ := hs i x acc g' hx hI
      refine ht.go G J g' F' H2 σ ds ds2 v x o' (e.mono (t1.f.trans t'.f)) dx hf _ fun σ' hσ e' => ?_
      refine ⟨hσ, hw F' H2 σ' o' e' _ fun b F3 H3 g3 h3 o3 t3 => ?_⟩
      have hp3 : H3 p = some (.lst ws) := t3.h p _ hp' np
      have fp3 : F3 p = none := t3.n p (by rw [hp']; exact fun z => nomatch z) fp'
      cases b with
      | false => exact ⟨ws, acc, F3, g3, by omega, h3.2 rfl, o3, t'.trans t3, hp3, fp3, da.mono t3.f⟩
      | true =>
        refine h3.1 rfl F3 H3 σ' o3 (e'.mono t3.f) _ fun w d F4 H4 g4 h4 o4 t4 d4 => ?_
        have hp4 : H4 p = some (.lst ws) := t4.h p _ hp3 np
        have fp4 : F4 p = none := t4.n p (by rw [hp3]; exact fun z => nomatch z) fp3
        have hlen : ws.length < 100000 := by rw [da.length]; omega
        exact ⟨ws, hp4, sz1001 hlen, ws ++ [w], acc ++ [d], F4, g4, by simp; omega, h4, o4.put0 fp4 np, tput _ ((t'.trans t3).trans t4), upd_same, fp4, (da.mono (t3.trans t4).f).append (.cons d4 .nil)⟩
    · have ei : i = xs.length := by omega
      subst ei
      have e2 : upd H' p (.lst ws) = H' := by
        funext a
        by_cases ea : a = p
        · subst ea; rw [upd_same]; exact hp'.symm
        · rw [upd_ne ea]
      have o2 := o'.put (p := p) (o := .lst ws) fp' np
      have t2 := Tr.put (o := .lst ws) t' hp fp' (by rw [hp']; exact fun z => nomatch z)
      rw [e2] at o2 t2
      exact .inl ⟨sr.stop F' H' t'.f o'.ex, q _ _ _ H' g' (hd acc g' hI) o2 (t1.trans t2) (.lst upd_same (da.mono fun a u ha => by rw [upd_ne (ne_of_none ha fp')]; exact ha))⟩
end
end TM

/-! Layer C1: rules that the hand layer lacks: a tuple whose object is known (count), set(list of ints). -/
namespace TM
open PySem PySem.Spec PyProof.Rows L2
section
variable {X : Cx}
/-! ### a tuple with its object -/
def tTupZ (t : TA) : TE := fun σ H Q => t σ H fun xs H1 => xs.length ≤ sizeLine ∧ ∀ (p : Addr) (ob : Obj), H1 p = none → ob.dict = none → Q (.ref p) (upd H1 p (.frz ob (.tup xs)))
theorem pe_tupZ {es : List Expr} {t : TA} {pos : Pos} {kk} (ha : PA X es t) : PE X (.Tuple es kk pos) (tTupZ t) := ⟨fun pins s σ H Q I hq => by
  refine wpAny_Tuple_spliced (thn (ha.run pos pins s σ H _ I hq) fun us s1 ⟨xs, H1, I1, r, z, q⟩ => ⟨by rw [← r.length]; exact z, ?_⟩)
  have fr : H1 s1.heap.objs.size = none := I1.hok.fresh (Nat.le_refl _)
  have gt := Heap.get?_push_size s1.heap (o := { cls := .type "tuple", data := .seq us.toArray }) rfl
  refine ⟨.ref s1.heap.objs.size, _, I1.laid (o := .frz { cls := .type "tuple", data := .seq us.toArray } (.tup xs)) (t' := s1.toks) (fun b u e => Heap.get?_push_of_some _ e) (Nat.le_refl _) ?_, rfl, q _ _ fr rfl⟩
  exact ⟨gt, z, us, r, ⟨_, gt, rfl, _, rfl⟩⟩⟩
/-- t + u; a new tuple with its object -/
def rCatZ (K : PySem.W.Frag) : R2 := fun x y H Q => ∃ a b xs ys, x = .ref a ∧ y = .ref b ∧ SqT K H a xs ∧ SqT K H b ys ∧ xs.length + ys.length ≤ sizeLine ∧ ys ≠ [] ∧
  (xs = [] → Q (.ref b) H) ∧ (xs ≠ [] → ∀ (p : Addr) (ob : Obj), H p = none → ob.dict = none → Q (.ref p) (upd H p (.frz ob (.tup (xs ++ ys)))))
theorem op_catZ : OpR X (binaryOp .Add) (rCatZ X.K) := by
  intro pins s σ H x y v u Q I rx ry h
  obtain ⟨a, b, xs, ys, rfl, rfl, ha, hb, hz, hy, q0, q2⟩ := h
  by_cases hx : xs = []
  · exact op_catA pins s σ H _ _ v u Q I rx ry ⟨a, b, xs, ys, rfl, rfl, ha, hb, hz, q0, fun n => absurd hx n, fun n => absurd hx n⟩
  · cases rx
    cases ry
    obtain ⟨its, r1, p1, _⟩ := I.tuple ha
    obtain ⟨jts, r2, p2, _⟩ := I.tuple hb
    refine HT.cat_tup p1 p2 (fun z => hx (r1.nil_iff.mp z)) (fun z => absurd (r2.nil_iff.mp z) hy) (fun z => ?_) (by rw [← r1.length, ← r2.length]; exact hz)
    have fr : H s.heap.objs.size = none := I.hok.fresh (Nat.le_refl _)
    have ln : (xs ++ ys).length ≤ sizeLine := by rw [List.length_append]; exact hz
    have gt := Heap.get?_push_size s.heap (o := { cls := .type "tuple", data := .seq (its ++ jts).toArray }) rfl
    refine ⟨.ref s.heap.objs.size, _, I.laid (o := .frz { cls := .type "tuple", data := .seq (its ++ jts).toArray } (.tup (xs ++ ys))) (t' := s.toks) (fun b ob q => Heap.get?_push_of_some _ q) (Nat.le_refl _) ?_, rfl, q2 hx _ _ fr rfl⟩
    exact ⟨gt, ln, _, r1.append r2, ⟨_, gt, rfl, _, rfl⟩⟩
/-- t.count(k), t of ints -/
def rCntT (K : PySem.W.Frag) : V → List V → Hp → VK → Prop := fun x vs H Q => ∃ (p : Addr) (ns : List Int) (k : Int), x = .ref p ∧ vs = [.int k] ∧ SqT K H p (ns.map V.int) ∧ Q (.int (ns.count k : Nat)) H
theorem mt_tcount : MtR X "tuple.count" (rCntT X.K) := by
  intro pins s σ H x vs v us Q I rx rvs h
  obtain ⟨p, ns, k, rfl, rfl, hs, q⟩ := h
  cases rx
  obtain ⟨u, rfl, ru⟩ := rvs.one
  obtain ⟨tk, rfl⟩ := ru
  obtain ⟨its, rv, ⟨⟨c0, d0, b0, sl0⟩, ho, hc, n, hd⟩, hlen⟩ := I.tuple hs
  simp only at hc hd
  subst hc hd
  have ia := ints_of_vals rv
  refine call_meets PySem.F.slot_tuple_count ⟨_, ho, rfl⟩ PySem.F.entry_tuple_count (PySem.F.args_tuple_count_2 _ _) (SeqAt.tuple_countAt p its.toArray n d0 sl0 (.int k tk) (eqk k)) ⟨ho, fun y hy => (eqk_gives ia y (by simpa using hy)).at _ _, ?_⟩
  have ec : its.toArray.toList.countP (eqk k) = ns.count k := eqk_count ia
  rw [ec]
  exact ⟨.int (ns.count k : Nat), H, I.tok _, ⟨s.toks, rfl⟩, q⟩
def tBMZ (r : V → List V → Hp → VK → Prop) (to : TE) (t : TA) : TE := fun σ H Q => to σ H fun x H1 => (∃ p ob xs, x = .ref p ∧ H1 p = some (.frz ob (.tup xs)) ∧ ob.dict = none) ∧ t σ H1 fun vs H2 => r x vs H2 Q
theorem pe_bmZ {o e : Expr} {es : List Expr} {to : TE} {t : TA} {name : Str} {apos cpos : Pos} {id : String} {r : V → List V → Hp → VK → Prop} (slot : Slot "tuple" name id) (hty : typeOf (.builtin id) = pure (.type "method_descriptor"))
    (hm : MtR X id r) (ho : PE X o to) (ha : PA X (e :: es) t)
    (hbase : attributeBase o name X.env (eval o X.env) = eval o X.env := by rfl)
    (hfew : ((backTo cpos (starEach (e :: es) X.env)).all (fun x => !x.1) && (backToKw cpos (keywordEach [] X.env)).all (fun x => x.1.isSome) && decide ((e :: es).length + ([] : List Keyword).length + (if ([] : List Keyword).isEmpty then 0 else 1) < 30)) = true := by rfl)
    (hline : (apos.endLine == cpos.line) = true := by rfl) (hs : starEach (e :: es) X.env = (false, eval e X.env) :: starEach es X.env := by rfl) (hpl : (backTo cpos (starEach es X.env)).any (·.1) = false := by rfl) :
    PE X (.Call (.Attribute o name apos) (e :: es) [] cpos) (tBMZ r to t) := ⟨fun pins s σ H Q I h => by
  refine wpAny_Call_method_late hbase hfew hline rfl (thn (ho.run pins s σ H _ I h) fun v s1 ⟨x, H1, I1, r1, ⟨p, ob, xs, ex, hp, hd⟩, q1⟩ => ?_)
  subst ex
  cases r1
  obtain ⟨g1, _, its, rv, o2, g2, hc, _⟩ := I1.hok p _ hp
  have eo : o2 = ob := by rw [g1] at g2; exact (Option.some.inj g2).symm
  subst eo
  refine ⟨"tuple", id, PySem.F.plainAttrs_tuple, slot, hty, ⟨_, g1, hc⟩, (fun a e => by cases e; exact ⟨_, g1, hd⟩), ?_⟩
  have hA := ha.run cpos pins s1 σ H1 _ I1 q1
  rw [hs] at hA ⊢
  refine Calls.callWith_builtin (by show (false || (backTo cpos (starEach es X.env)).any (·.1)) = false; rw [hpl] <;> rfl) (Calls.evalArgs_plain ?_)
  exact thn hA fun us s2 ⟨vs, H2, I2, r2, q2⟩ => hm pins s2 σ H2 (.ref p) vs (.ref p) us Q I2 rfl r2 q2⟩
end

/-! ### set(xs), xs a list of ints -/
abbrev sob (w : World) : Obj := { cls := .type "set", dict := none, data := .set #[] 0 (.fresh 0 0 (!w.params.followText "set-order")) }
section
variable {P : Program} {w : World} {A : Around} {E : Value → Shared → Prop} {s : Shared}
theorem set_of_list {l : Addr} {items : Array Value} (ns : List Int) {Q : Value → Shared → Prop} (hh : A.handled = none) (hl : s.heap.IsList l items) (hit : IntsAre items.toList ns) (hb : ns.length + 1 < scanBound)
    (h : ∀ (h' : Heap) (tk c : Nat), SetR w h' s.heap.objs.size (fun j => decide (j ∈ ns)) c → c ≤ ns.length → (∀ b o, s.heap.get? b = some o → h'.get? b = some o) → Q (.ref s.heap.objs.size) { s with heap := h', toks := tk }) :
    wpAny (model P w) A (call (.type "set") [.ref l]) Q E s := by
  have zn : items.size = ns.length := by
    have q := IntsAre.length hit
    rw [Array.length_toList] at q; exact q
  obtain ⟨c, tl, hmro⟩ := PySem.F.called_set.mro
  have m1 := PySem.F.called_set.made
  have m2 := PySem.F.called_set.sub
  refine wpAny_call (codeAny_of_tree ?_)
  show wpAny _ _ (callAny (.type "set") _) _ _ _
  refine wpAny_pure ⟨Code.quiet_builtin _ (by decide +kernel), codeAny_builtin PySem.F.entry_type_call ?_⟩
  rw [Around.under_plain (weight_type_call_type "set" [.ref l] []) rfl]
  have m3 := PySem.F.called_set.notType
  have m4 := PySem.F.called_set.canCreate
  have m5 := PySem.F.typeCall_set_1 (.ref l)
  repeat (any_goals (first | assumption | wp_step))

  refine codeAny_mono (code_set_led1 (.ref l) (E := E) (Q₁ := fun obj s₁ => obj = .ref s.heap.objs.size ∧ s₁ = { s with heap := s.heap.push (sob w) }) ⟨rfl, rfl⟩) fun r s₁ hr => ?_
  cases r with
  | error e => exact hr
  | ok fl =>
    cases fl with
    | next => exact hr.elim
    | brk => exact hr.elim
    | cont => exact hr.elim
    | ret obj =>
      obtain ⟨rfl, rfl⟩ := hr
      have hS : (s.heap.push (sob w)).get? s.heap.objs.size = some (sob w) := Heap.get?_push_size _ rfl
      have hT : Shared.TypeIs { s with heap := s.heap.push (sob w) } (.ref s.heap.objs.size) "set" := ⟨_, hS, rfl⟩
      have i1 := PySem.F.called_set.init.lookup
      have i2 := PySem.F.called_set.init.bind (.ref s.heap.objs.size)
      repeat (any_goals (first | assumption | wp_step))

      refine codeAny_mono (codeAny_call_builtin (R := wants (fun r s₂ => r = .none ∧ ∃ h' tk c, s₂ = { s with heap := h', toks := tk } ∧ SetR w h' s.heap.objs.size (fun j => decide (j ∈ ns)) c ∧ c ≤ ns.length ∧ (∀ b o, s.heap.get? b = some o → h'.get? b = some o)) E)
        PySem.F.called_set.init.plain PySem.F.entry_set_init (check_set_init_1 hT ?_)) fun r₂ s₂ hr₂ => ?_
      · obtain ⟨ol, hol, hcl, nl, hdl⟩ := hl
        obtain ⟨ocls, odict, odata, oslots⟩ := ol
        simp only at hcl hdl
        subst hcl; subst hdl
        have gl : (s.heap.push (sob w)).get? l = some { cls := .type "list", dict := odict, data := .seq items nl, slots := oslots } := Heap.get?_push_of_some _ hol
        have b1 := PySem.F.sub_list_set
        have b2 := PySem.F.sub_list_frozenset
        have b3 : (Value.type "list" == Value.type "dict") = false := by decide
        have hl1 : (s.heap.push (sob w)).IsList l items := ⟨_, gl, rfl, nl, rfl⟩
        unfold Builtin.«set.__init__» noKeywords Builtin.Frozenset.updateFrom
        generalize hPI : pyIter = PI
        wp_walk
        subst hPI

        refine wpAny_pyIter_list hl1 ?_
        refine wpAny_bind (wpAny_runValue ?_)
        have hlS : l < s.heap.objs.size := Heap.lt_size hol
        have h3 : A.in1.in1.in1.handled = none := by simp [hh]
        have z1 : (s.heap.push (sob w)).objs.size = s.heap.objs.size + 1 := Heap.size_push ..
        have nI : l ≠ (s.heap.push (sob w)).objs.size := by
          rw [z1]; exact Nat.ne_of_lt (Nat.lt_succ_of_lt hlS)
        have nS : s.heap.objs.size ∉ [(s.heap.push (sob w)).objs.size, l] := by
          rw [z1]; simp only [List.mem_cons, List.mem_singleton, List.not_mem_nil, or_false, not_or]
          exact ⟨Nat.ne_of_lt (Nat.lt_succ_self _), Nat.ne_of_gt hlS⟩
        have hval : ∀ (i : Nat) (v : Value), items[i]? = some v → ∃ k t, ns[i]? = some k ∧ v = .int k t := fun i v hv => by
          have hi : i < ns.length := by rw [← zn]; exact (Array.getElem?_eq_some_iff.mp hv).1
          obtain ⟨t, e⟩ := PyProof.Rows.IntsAre.int_at hit i v (by rw [Array.getElem?_toList]; exact hv)
          exact ⟨ns[i], t, List.getElem?_eq_getElem hi, by rw [e, List.getD_eq_getElem?_getD, List.getElem?_eq_getElem hi] <;> rfl⟩
        refine set_update_ints ((Walks.list h3 _ l nI items).toS) s.heap.objs.size nS ns zn hb hval (items.size - 0) 0 _ (by omega) (Nat.zero_le _) ⟨⟨_, Heap.get?_push_size _ rfl, rfl, rfl⟩, (hl1.push _)⟩ ?hS0 ?hR
        case hS0 => exact ⟨0, Nat.le_refl 0, setR_new_at (Heap.get?_push_of_some _ hS)⟩
        case hR =>
          intro s' c' hm hc' hS'
          obtain ⟨h', g2, d', tk', os'⟩ := s'
          have eg : g2 = s.gens := hm.gens
          have ed : d' = s.drawn := hm.drawn
          have eo : os' = s.os := hm.os
          subst eg; subst ed; subst eo
          show wpAny _ _ _ _ _ _
          refine wpAny_pure ?_
          show wpAny _ _ (ret Value.none) _ _ _
          rw [zn] at hc'
          refine wpAny_pure ⟨rfl, h', tk', c', rfl, hS', hc', fun b o e => ?_⟩
          have q0 : b < s.heap.objs.size := Heap.lt_size e
          have q1 : b ≠ s.heap.objs.size := Nat.ne_of_lt q0
          have q2 : b ≠ (s.heap.push (sob w)).objs.size := by rw [z1]; exact Nat.ne_of_lt (Nat.lt_succ_of_lt q0)
          exact hm.heap b o (by simp only [List.mem_cons, List.mem_singleton, List.not_mem_nil, or_false, not_or]; exact ⟨q1, q2⟩) (Heap.get?_push_of_some _ (Heap.get?_push_of_some _ e))

      · cases r₂ with
        | error e => exact hr₂
        | ok fl₂ =>
          cases fl₂ with
          | next => exact hr₂.elim
          | brk => exact hr₂.elim
          | cont => exact hr₂.elim
          | ret r =>
            obtain ⟨rfl, h', tk, c', rfl, hS', hc', hk'⟩ := hr₂
            repeat (any_goals (first | assumption | wp_step))
            exact h _ _ _ hS' hc' hk'
end
section
variable {X : Cx}
def rSetL (K : PySem.W.Frag) (w : World) : List V → Hp → VK → Prop := fun vs H Q => ∃ (l : Addr) (ns : List Int), vs = [.ref l] ∧ SqL K H l (ns.map V.int) ∧ ns.length + 1 < scanBound ∧
  ∀ (p : Addr) (c : Nat), H p = none → c ≤ ns.length → Q (.ref p) (upd H p (SetO w p (fun j => decide (j ∈ ns)) c))
theorem cr_setL (hc : X.calm = true) : CallR X (.type "set") (rSetL X.K X.w) := by
  intro pins s σ H vs us Q I r h
  obtain ⟨l, ns, rfl, hl, hb, q⟩ := h
  obtain ⟨u, rfl, ru⟩ := r.one
  cases ru
  obtain ⟨its, rv, pl, _⟩ := I.list hl
  refine set_of_list ns (I.ok.hd hc) pl.isList (by simpa using ints_of_vals rv) hb fun h' tk c hS hcl hk => ?_
  exact ⟨.ref _, upd H s.heap.objs.size (SetO X.w s.heap.objs.size (fun j => decide (j ∈ ns)) c), I.laid (t' := tk) hk (Nat.le_refl _) (setO_new hS), rfl, q _ c (I.hok.fresh (Nat.le_refl _)) hcl⟩
end
end TM

/-! Layer C2: operators, calls and methods by data; the contract of a def. -/
namespace TM
open PySem PySem.Spec L2
/-! ### the operators' readings, by name -/
abbrev rIxU (K : PySem.W.Frag) : R2 := fun x y H Q => rIxL K x y H Q ∨ rIxT K x y H Q
abbrev rAddU (K : PySem.W.Frag) : R2 := fun x y H Q => rI0 (fun i j => .int (i + j)) x y H Q ∨ (rCat x y H Q ∨ rCatA K x y H Q)
abbrev rMulU : R2 := fun x y H Q => rI CMul (fun i j => .int (i * j)) x y H Q ∨ rRep x y H Q
abbrev rEqU (K : PySem.W.Frag) : R2 := fun x y H Q => rEq x y H Q ∨ rEqD K x y H Q
abbrev rNeU (K : PySem.W.Frag) : R2 := fun x y H Q => rNe x y H Q ∨ rNeD K x y H Q
abbrev rSlU (K : PySem.W.Frag) : V → Option Int → Option Int → Hp → VK → Prop := fun x lo hi H Q => rSlL K x lo hi H Q ∨ rSlA K x lo hi H Q
def rSubI : R2 := rI0 fun i j => .int (i - j)
def rModI : R2 := rI (fun _ j => 0 < j) fun i j => .int (i % j)
def rDivI : R2 := rI CDiv fun i j => .int (i / j)
def rPowI : R2 := rI CPow fun i j => .int (i ^ j.toNat)
def rLtI : R2 := rI0 fun i j => .bl (decide (i < j))
def rLeI : R2 := rI0 fun i j => .bl (decide (i ≤ j))
def rGtI : R2 := rI0 fun i j => .bl (decide (j < i))
def rGeI : R2 := rI0 fun i j => .bl (decide (j ≤ i))
def rIsNo : R2 := fun x y H Q => y = .non ∧ Q (.bl (decide (x = .non))) H
def rIsNt : R2 := fun x y H Q => y = .non ∧ Q (.bl (!decide (x = .non))) H
def rNeg : V → Hp → VK → Prop := rU fun i => .int (-i)
def rLenU (K : PySem.W.Frag) : List V → Hp → VK → Prop := fun xs H Q => ∃ p ys, xs = [.ref p] ∧ (SqL K H p ys ∨ SqT K H p ys) ∧ Q (.int ys.length) H
def rIntU : List V → Hp → VK → Prop := fun xs H Q => (∃ i, xs = [.int i] ∧ Q (.int i) H) ∨ ∃ k, xs = [.bl k] ∧ Q (.int (if k then 1 else 0)) H
def rTupU (K : PySem.W.Frag) : List V → Hp → VK → Prop := fun xs H Q => ∃ p ys, xs = [.ref p] ∧ ((SqL K H p ys ∧ ∀ l, H l = none → Q (.ref l) (upd H l (.tup ys))) ∨ (SqT K H p ys ∧ Q (.ref p) H))
def rLstU (K : PySem.W.Frag) : List V → Hp → VK → Prop := fun xs H Q => ∃ p ys, xs = [.ref p] ∧ (SqL K H p ys ∨ SqT K H p ys) ∧ ∀ l, H l = none → Q (.ref l) (upd H l (.lst ys))
def rMaxU : List V → Hp → VK → Prop := fun xs H Q => ∃ i j, xs = [.int i, .int j] ∧ Q (.int (if j > i then j else i)) H
section
variable {X : Cx}
theorem o_ix : IxR X (rIxU X.K) := ix_list.or ix_tup
theorem o_add : OpR X (binaryOp .Add) (rAddU X.K) := op_add.or (op_cat.or op_catA)
theorem o_mul : OpR X (binaryOp .Mult) rMulU := op_mul.or op_rep
theorem o_sub : OpR X (binaryOp .Sub) rSubI := op_sub
theorem o_mod : OpR X (binaryOp .Mod) rModI := op_mod
theorem o_div : OpR X (binaryOp .FloorDiv) rDivI := op_fdiv
theorem o_pow : OpR X (binaryOp .Pow) rPowI := op_pow
theorem o_eq (hu : X.A.units + 64 < cLine) : OpR X (compareOp .Eq) (rEqU X.K) := op_eq.or (op_eqD hu)
theorem o_ne (hu : X.A.units + 64 < cLine) : OpR X (compareOp .NotEq) (rNeU X.K) := op_ne.or (op_neD hu)
theorem o_lt : OpR X (compareOp .Lt) rLtI := op_lt
theorem o_le : OpR X (compareOp .LtE) rLeI := op_le
theorem o_gt : OpR X (compareOp .Gt) rGtI := op_gt
theorem o_ge : OpR X (compareOp .GtE) rGeI := op_ge
theorem o_is : OpR X (compareOp .Is) rIsNo := op_isN
theorem o_isnt : OpR X (compareOp .IsNot) rIsNt := op_notN
theorem o_neg : UnR X (unaryOp .USub) rNeg := un_neg
theorem o_sl : SlR X (rSlU X.K) := sl_list.or sl_tupA
theorem c_len : CallR X (.builtin "len") (rLenU X.K) := call_len_seq
theorem c_int : CallR X (.type "int") rIntU := call_int1
theorem c_tup : CallR X (.type "tuple") (rTupU X.K) := call_tuple_of
theorem c_lst : CallR X (.type "list") (rLstU X.K) := call_list_of
theorem c_max (hc : X.calm = true) : CallR X (.builtin "max") rMaxU := call_max2 hc
end

/-! the same rules, the module's facts K (and the world) named: what they read is then free of the context -/
section
variable {X : Cx} {K : PySem.W.Frag}
theorem k_ix (h : X.K = K) : IxR X (rIxU K) := h ▸ o_ix
theorem k_add (h : X.K = K) : OpR X (binaryOp .Add) (rAddU K) := h ▸ o_add
theorem k_eq (h : X.K = K) (hu : X.A.units + 64 < cLine) : OpR X (compareOp .Eq) (rEqU K) := h ▸ o_eq hu
theorem k_ne (h : X.K = K) (hu : X.A.units + 64 < cLine) : OpR X (compareOp .NotEq) (rNeU K) := h ▸ o_ne hu
theorem k_in (h : X.K = K) : OpR X (compareOp .In) (rIn K false) := h ▸ op_in_seq
theorem k_nin (h : X.K = K) : OpR X (compareOp .NotIn) (rIn K true) := h ▸ op_notIn_seq
theorem k_catZ (h : X.K = K) : OpR X (binaryOp .Add) (rCatZ K) := h ▸ op_catZ
theorem k_sl (h : X.K = K) : SlR X (rSlU K) := h ▸ o_sl
theorem k_len (h : X.K = K) : CallR X (.builtin "len") (rLenU K) := h ▸ c_len
theorem k_tup (h : X.K = K) : CallR X (.type "tuple") (rTupU K) := h ▸ c_tup
theorem k_lst (h : X.K = K) : CallR X (.type "list") (rLstU K) := h ▸ c_lst
theorem k_isi (h : X.K = K) : CallR X (.builtin "isinstance") (rIsi K) := h ▸ call_isi
theorem k_lcount (h : X.K = K) : MtR X "list.count" (rCntI K) := h ▸ mt_lcount
theorem k_tcount (h : X.K = K) : MtR X "tuple.count" (rCntT K) := h ▸ mt_tcount
theorem k_setL {w : World} (h : X.K = K) (h2 : X.w = w) (hc : X.calm = true) : CallR X (.type "set") (rSetL K w) := by
  subst h h2; exact cr_setL hc
theorem k_sorted {w : World} (h2 : X.w = w) (hc : X.calm = true) : CallR X (.builtin "sorted") (rSortedSet w) := h2 ▸ cr_sortedSet hc
variable {tg l e o : Expr} {es : List Expr} {tl te to : TE} {t : TA} {pos apos cpos : Pos}
theorem k_list (h : X.K = K) (hl : PE X l tl) : PI X tg l (iList K tl) := h ▸ pi_list hl
theorem k_tupI (h : X.K = K) (hl : PE X l tl) : PI X tg l (iTup K tl) := h ▸ pi_tup hl
theorem k_tg {kk n : Nat} {ts : TGs} (h : X.K = K) (hc : X.calm = true) (hg : PGs X es ts) (hn : (assignEach es X.env).length = n := by rfl) (hst : (assignEach es X.env).findIdx? (·.1) = none := by rfl) : PG X (.Tuple es kk pos) (gTup K n ts) := h ▸ pg_tup hc hg hn hst
theorem k_bm {name : Str} {T id : String} {r : V → List V → Hp → VK → Prop} (h : X.K = K) (pa : PlainAttrs T) (slot : Slot T name id) (hty : typeOf (.builtin id) = pure (.type "method_descriptor")) (hm : MtR X id r) (ho : PE X o to) (ha : PA X (e :: es) t)
    (hbase : attributeBase o name X.env (eval o X.env) = eval o X.env := by rfl)
    (hfew : ((backTo cpos (starEach (e :: es) X.env)).all (fun x => !x.1) && (backToKw cpos (keywordEach [] X.env)).all (fun x => x.1.isSome) && decide ((e :: es).length + ([] : List Keyword).length + (if ([] : List Keyword).isEmpty then 0 else 1) < 30)) = true := by rfl)
    (hline : (apos.endLine == cpos.line) = true := by rfl) (hs : starEach (e :: es) X.env = (false, eval e X.env) :: starEach es X.env := by rfl) (hpl : (backTo cpos (starEach es X.env)).any (·.1) = false := by rfl) :
    PE X (.Call (.Attribute o name apos) (e :: es) [] cpos) (tBM K T r to t) := h ▸ pe_bm pa slot hty hm ho ha hbase hfew hline hs hpl
end

/-! ### data as the library's plain data, for == -/
def toPy : Nat → Dv → PyData
  | _, .non => .none
  | _, .bl b => .bool b
  | _, .int i => .int i
  | _, .str s => .str s
  | n + 1, .lst xs => .list (xs.map (toPy n))
  | n + 1, .tup xs => .tuple (xs.map (toPy n))
  | n + 1, .tupz xs => .tuple (xs.map (toPy n))
  | _, _ => .none
def okPy : Nat → Dv → Bool
  | _, .non => true
  | _, .bl _ => true
  | _, .int _ => true
  | _, .str s => PyData.strOk s
  | n + 1, .lst xs => xs.all (okPy n)
  | n + 1, .tup xs => xs.all (okPy n)
  | n + 1, .tupz xs => xs.all (okPy n)
  | _, _ => false
theorem dt_dpAll {K : PySem.W.Frag} {F H : Hp} {n : Nat} (ih : ∀ (v : V) (d : Dv), Dt F v d → okPy n d = true → Dp K H v (toPy n d)) :
    ∀ {vs : List V} {ds : List Dv}, DtAll F vs ds → ds.all (okPy n) = true → DpAll K H vs (ds.map (toPy n))
  | _, _, .nil, _ => .nil
  | _, _, .cons h t, e => by
    rw [List.all_cons, Bool.and_eq_true] at e
    exact .cons (ih _ _ h e.1) (dt_dpAll ih t e.2)
theorem dt_dp {K : PySem.W.Frag} {F H : Hp} (s : Same F H) : ∀ (n : Nat) (v : V) (d : Dv), Dt F v d → okPy n d = true → Dp K H v (toPy n d)
  | 0, v, d, h, e => by
    cases h <;> first | exact .non | exact .bl _ | exact .int _ | exact .str _ | (simp [okPy] at e)
  | n + 1, v, d, h, e => by
    cases h with
    | non => exact .non
    | bl b => exact .bl b
    | int i => exact .int i
    | str x => exact .str x
    | lst ha da => exact .lst (.inl (.inl (s _ _ ha))) (dt_dpAll (dt_dp s n) da e)
    | tup ha da => exact .tup (.inl (rd_same s ha)) (dt_dpAll (dt_dp s n) da e)
    | tupz ha hz da => exact .tup (.inl (rd_same s (.inr ⟨_, ha⟩))) (dt_dpAll (dt_dp s n) da e)
    | dic ha da => simp [okPy] at e
    | raw v => simp [okPy] at e
theorem lay_all {n : Nat} (ih : ∀ d : Dv, okPy n d = true → (toPy n d).canLay0 = true ∧ (toPy n d).depth ≤ n) : ∀ {ds : List Dv}, ds.all (okPy n) = true → PyData.canLayAll0 (ds.map (toPy n)) = true ∧ PyData.depthAll (ds.map (toPy n)) ≤ n
  | [], _ => by simp [PyData.canLayAll0, PyData.depthAll]
  | d :: ds, e => by
    rw [List.all_cons, Bool.and_eq_true] at e
    have h1 := ih d e.1
    have h2 := lay_all ih e.2
    rw [List.map_cons]
    constructor
    · rw [PyData.canLayAll0, h1.1, h2.1] <;> rfl
    · rw [PyData.depthAll]
      exact Nat.max_le.mpr ⟨h1.2, h2.2⟩
theorem lay_py : ∀ (n : Nat) (d : Dv), okPy n d = true → (toPy n d).canLay0 = true ∧ (toPy n d).depth ≤ n
  | 0, d, e => by
    cases d <;> first | (simp [okPy] at e; done) | (simp [toPy, PyData.canLay0, PyData.depth]; done) | (simp [okPy] at e; simp [toPy, PyData.canLay0, PyData.depth, e])
  | n + 1, d, e => by
    cases d with
    | non => simp [toPy, PyData.canLay0, PyData.depth]
    | bl b => simp [toPy, PyData.canLay0, PyData.depth]
    | int i => simp [toPy, PyData.canLay0, PyData.depth]
    | str s => simp [okPy] at e; simp [toPy, PyData.canLay0, PyData.depth, e]
    | lst xs =>
      have q := lay_all (lay_py n) (ds := xs) (by simpa [okPy] using e)
      simp only [toPy, PyData.canLay0, PyData.depth]
      exact ⟨q.1, by have := q.2; omega⟩
    | tup xs =>
      have q := lay_all (lay_py n) (ds := xs) (by simpa [okPy] using e)
      simp only [toPy, PyData.canLay0, PyData.depth]
      exact ⟨q.1, by have := q.2; omega⟩
    | tupz xs =>
      have q := lay_all (lay_py n) (ds := xs) (by simpa [okPy] using e)
      simp only [toPy, PyData.canLay0, PyData.depth]
      exact ⟨q.1, by have := q.2; omega⟩
    | dic ks => simp [okPy] at e
    | raw v => simp [okPy] at e
theorem shaped_py {n : Nat} {d : Dv} (hn : n ≤ 64) (e : okPy n d = true) : SeqAt.shaped (toPy n d) = true := by
  have q := lay_py n d e
  unfold SeqAt.shaped
  rw [q.1, Bool.true_and]
  exact decide_eq_true (Nat.le_trans q.2 hn)

/-! ### flat data -/
def flatD : Dv → Bool
  | .non => true | .bl _ => true | .int _ => true | .str _ => true | _ => false
def flatOf : Dv → V
  | .non => .non | .bl b => .bl b | .int i => .int i | .str s => .str s | _ => .non
theorem dt_flat {F : Hp} {v : V} {d : Dv} (h : Dt F v d) (e : flatD d = true) : v = flatOf d ∧ flatV v = true := by
  cases h <;> first | exact ⟨rfl, rfl⟩ | (simp [flatD] at e)
theorem dt_flats {F : Hp} : ∀ {vs : List V} {ds : List Dv}, DtAll F vs ds → ds.all flatD = true → vs = ds.map flatOf ∧ vs.all flatV = true
  | _, _, .nil, _ => ⟨rfl, rfl⟩
  | _, _, .cons h t, e => by
    rw [List.all_cons, Bool.and_eq_true] at e
    obtain ⟨h1, h2⟩ := dt_flat h e.1
    obtain ⟨h3, h4⟩ := dt_flats t e.2
    exact ⟨by rw [List.map_cons, ← h1, ← h3], by rw [List.all_cons, h2, h4] <;> rfl⟩
/-- x in xs, flat -/
def inD (x : Dv) (xs : List Dv) : Bool := inV (flatOf x) (xs.map flatOf)

section
variable {G : Type} {J : JT G} {ds : DE} {g : G} {Φ : Dv → G → Prop} {ta tb te : TE} {x y : Dv} {K : PySem.W.Frag} {i j : Int}
abbrev Post (J : JT G) (F H : Hp) (Φ : Dv → G → Prop) (Q : VK) : Prop := ∀ u d F' H' g', Φ d g' → J.Ok F' H' g' → Tr J F H F' H' → Dt F' u d → Q u H'
theorem ro_add_i (k : Φ (.int (i + j)) g) : RO J (rAddU K) (.int i) (.int j) g Φ := fun F H v w o d1 d2 Q q => by
  cases d1; cases d2
  exact .inl ⟨i, j, rfl, rfl, q _ _ F H g k o Tr.refl (.int _)⟩
theorem ro_add_l {xs ys : List Dv} (hz : xs.length + ys.length ≤ 100000) (k : Φ (.lst (xs ++ ys)) g) : RO J (rAddU K) (.lst xs) (.lst ys) g Φ := fun F H v w o d1 d2 Q q => by
  cases d1 with
  | lst ha da =>
    cases d2 with
    | lst hb db =>
      refine .inr (.inl ⟨_, _, _, _, rfl, rfl, o.ex _ _ ha, o.ex _ _ hb, sz1000 (by rw [da.length, db.length]; exact hz), ?_⟩)
      exact fin_new q k o Tr.refl fun p F2 s e => .lst e ((da.append db).mono s)
theorem DtAll.nil_iff {F : Hp} {vs : List V} {es : List Dv} (h : DtAll F vs es) : vs = [] ↔ es = [] := by cases h <;> simp
theorem ro_add_t {xs ys : List Dv} (hz : xs.length + ys.length ≤ 100000) (k : Φ (.tup (xs ++ ys)) g) : RO J (rAddU K) (.tup xs) (.tup ys) g Φ := fun F H v w o d1 d2 Q q => by
  have c1 := d1
  have c2 := d2
  cases d1 with
  | tup ha da =>
    cases d2 with
    | tup hb db =>
      refine .inr (.inr ⟨_, _, _, _, rfl, rfl, .inl (rd_same o.ex ha), .inl (rd_same o.ex hb), sz1000 (by rw [da.length, db.length]; exact hz), fun z => ?_, fun z1 z2 => ?_, fun z1 z2 => ?_⟩)
      · have e := da.nil_iff.mp z
        subst e
        exact q _ _ F H g k o Tr.refl c2
      · have e := db.nil_iff.mp z2
        subst e
        rw [List.append_nil] at k
        exact q _ _ F H g k o Tr.refl c1
      · exact fin_new q k o Tr.refl fun p F2 s e => .tup (.inl e) ((da.append db).mono s)
theorem ro_catZ {xs ys : List Dv} (hz : xs.length + ys.length ≤ 100000) (hy : ys ≠ []) (k : Φ (.tupz (xs ++ ys)) g) : RO J (rCatZ K) (.tupz xs) (.tupz ys) g Φ := fun F H v w o d1 d2 Q q => by
  have c2 := d2
  cases d1 with
  | tupz ha za da =>
    cases d2 with
    | tupz hb zb db =>
      refine ⟨_, _, _, _, rfl, rfl, .inl (rd_same o.ex (.inr ⟨_, ha⟩)), .inl (rd_same o.ex (.inr ⟨_, hb⟩)), sz1000 (by rw [da.length, db.length]; exact hz), fun z => hy (db.nil_iff.mp z), fun z => ?_, fun z p ob hp hd => ?_⟩
      · have e := da.nil_iff.mp z
        subst e
        exact q _ _ F H g k o Tr.refl c2
      · exact fin_new q k o Tr.refl (fun p F2 s e => .tupz e hd ((da.append db).mono s)) p hp
theorem we_tupZ {t : TA} (h : WA J ds g t fun es g' => es.length ≤ 100000 ∧ Φ (.tupz es) g') : WE J ds g (tTupZ t) Φ := fun F H σ o e Q q =>
  h F H σ o e _ fun vs es F1 H1 g1 h1 o1 t1 d1 => ⟨sz1000 (by rw [d1.length]; exact h1.1), fun p ob hp hd => fin_new q h1.2 o1 t1 (fun p F2 s e => .tupz e hd (d1.mono s)) p hp⟩
/-- the same tuple taken as one whose object is not asked for -/
theorem we_tupZt {t : TA} (h : WA J ds g t fun es g' => es.length ≤ 100000 ∧ Φ (.tup es) g') : WE J ds g (tTupZ t) Φ := fun F H σ o e Q q =>
  h F H σ o e _ fun vs es F1 H1 g1 h1 o1 t1 d1 => ⟨sz1000 (by rw [d1.length]; exact h1.1), fun p ob hp hd => fin_new q h1.2 o1 t1 (fun p F2 s e => .tup (.inr ⟨ob, e⟩) (d1.mono s)) p hp⟩
theorem ro_sub (k : Φ (.int (i - j)) g) : RO J rSubI (.int i) (.int j) g Φ := fun F H v w o d1 d2 Q q => by
  cases d1; cases d2
  exact ⟨i, j, rfl, rfl, q _ _ F H g k o Tr.refl (.int _)⟩
theorem ro_mul_l (hc : -(2 ^ 64) < i ∧ i < 2 ^ 64) (k : Φ (.int (i * j)) g) : RO J rMulU (.int i) (.int j) g Φ := fun F H v w o d1 d2 Q q => by
  cases d1; cases d2
  exact .inl ⟨i, j, rfl, rfl, .inl hc, q _ _ F H g k o Tr.refl (.int _)⟩
theorem ro_mul_r (hc : -(2 ^ 64) < j ∧ j < 2 ^ 64) (k : Φ (.int (i * j)) g) : RO J rMulU (.int i) (.int j) g Φ := fun F H v w o d1 d2 Q q => by
  cases d1; cases d2
  exact .inl ⟨i, j, rfl, rfl, .inr hc, q _ _ F H g k o Tr.refl (.int _)⟩
theorem DtAll.rep {F : Hp} {vs : List V} {es : List Dv} (h : DtAll F vs es) : ∀ n : Nat, DtAll F (List.replicate n vs).flatten (List.replicate n es).flatten
  | 0 => .nil
  | n + 1 => by
    rw [List.replicate_succ, List.replicate_succ, List.flatten_cons, List.flatten_cons]
    exact h.append (DtAll.rep h n)
theorem ro_rep {xs : List Dv} {n : Nat} (hz : xs.length * n ≤ 100000) (hn : n ≤ 100000) (k : Φ (.lst (List.replicate n xs).flatten) g) : RO J rMulU (.lst xs) (.int (n : Int)) g Φ := fun F H v w o d1 d2 Q q => by
  cases d2
  cases d1 with
  | lst ha da =>
    refine .inr ⟨_, _, _, rfl, rfl, o.ex _ _ ha, by omega, by omega, sz1000 (by rw [da.length, Int.toNat_natCast]; exact hz), ?_⟩
    rw [Int.toNat_natCast]
    exact fin_new q k o Tr.refl fun p F2 s e => .lst e ((da.rep n).mono s)
theorem ro_mod (hk : 0 < j ∧ Φ (.int (i % j)) g) : RO J rModI (.int i) (.int j) g Φ := fun F H v w o d1 d2 Q q => by
  obtain ⟨hj, k⟩ := hk
  cases d1; cases d2
  exact ⟨i, j, rfl, rfl, hj, q _ _ F H g k o Tr.refl (.int _)⟩
theorem ro_div (hj : 0 < j ∧ j < 1073741824) (k : Φ (.int (i / j)) g) : RO J rDivI (.int i) (.int j) g Φ := fun F H v w o d1 d2 Q q => by
  cases d1; cases d2
  exact ⟨i, j, rfl, rfl, hj, q _ _ F H g k o Tr.refl (.int _)⟩
theorem ro_pow (hj : 0 ≤ j ∧ j ≤ 1000000 ∧ i.natAbs < 2 ^ 64) (k : Φ (.int (i ^ j.toNat)) g) : RO J rPowI (.int i) (.int j) g Φ := fun F H v w o d1 d2 Q q => by
  cases d1; cases d2
  exact ⟨i, j, rfl, rfl, hj, q _ _ F H g k o Tr.refl (.int _)⟩
theorem ro_lt (k : Φ (.bl (decide (i < j))) g) : RO J rLtI (.int i) (.int j) g Φ := fun F H v w o d1 d2 Q q => by
  cases d1; cases d2
  exact ⟨i, j, rfl, rfl, q _ _ F H g k o Tr.refl (.bl _)⟩
theorem ro_le (k : Φ (.bl (decide (i ≤ j))) g) : RO J rLeI (.int i) (.int j) g Φ := fun F H v w o d1 d2 Q q => by
  cases d1; cases d2
  exact ⟨i, j, rfl, rfl, q _ _ F H g k o Tr.refl (.bl _)⟩
theorem ro_gt (k : Φ (.bl (decide (j < i))) g) : RO J rGtI (.int i) (.int j) g Φ := fun F H v w o d1 d2 Q q => by
  cases d1; cases d2
  exact ⟨i, j, rfl, rfl, q _ _ F H g k o Tr.refl (.bl _)⟩
theorem ro_ge (k : Φ (.bl (decide (j ≤ i))) g) : RO J rGeI (.int i) (.int j) g Φ := fun F H v w o d1 d2 Q q => by
  cases d1; cases d2
  exact ⟨i, j, rfl, rfl, q _ _ F H g k o Tr.refl (.bl _)⟩
theorem vi_eq {i j : Int} : decide (V.int i = V.int j) = decide (i = j) := by by_cases e : i = j <;> simp [e]
theorem vs_eq {i j : Str} : decide (V.str i = V.str j) = decide (i = j) := by by_cases e : i = j <;> simp [e]
theorem vb_eq {i j : Bool} : decide (V.bl i = V.bl j) = decide (i = j) := by by_cases e : i = j <;> simp [e]
theorem ro_eq_i (k : Φ (.bl (decide (i = j))) g) : RO J (rEqU K) (.int i) (.int j) g Φ := fun F H v w o d1 d2 Q q => by
  cases d1; cases d2
  exact .inl ⟨rfl, by rw [vi_eq]; exact q _ _ F H g k o Tr.refl (.bl _)⟩
theorem ro_ne_i (k : Φ (.bl (!decide (i = j))) g) : RO J (rNeU K) (.int i) (.int j) g Φ := fun F H v w o d1 d2 Q q => by
  cases d1; cases d2
  exact .inl ⟨rfl, by rw [vi_eq]; exact q _ _ F H g k o Tr.refl (.bl _)⟩
theorem ro_eq_s {a b : Str} (k : Φ (.bl (decide (a = b))) g) : RO J (rEqU K) (.str a) (.str b) g Φ := fun F H v w o d1 d2 Q q => by
  cases d1; cases d2
  exact .inl ⟨rfl, by rw [vs_eq]; exact q _ _ F H g k o Tr.refl (.bl _)⟩
theorem ro_ne_s {a b : Str} (k : Φ (.bl (!decide (a = b))) g) : RO J (rNeU K) (.str a) (.str b) g Φ := fun F H v w o d1 d2 Q q => by
  cases d1; cases d2
  exact .inl ⟨rfl, by rw [vs_eq]; exact q _ _ F H g k o Tr.refl (.bl _)⟩
theorem ro_ne_b {a b : Bool} (k : Φ (.bl (!decide (a = b))) g) : RO J (rNeU K) (.bl a) (.bl b) g Φ := fun F H v w o d1 d2 Q q => by
  cases d1; cases d2
  exact .inl ⟨rfl, by rw [vb_eq]; exact q _ _ F H g k o Tr.refl (.bl _)⟩
theorem ro_eq_d (n : Nat) (hn : n ≤ 64) (hx : okPy n x = true) (hy : okPy n y = true) (k : Φ (.bl (PyData.eqv (toPy n x) (toPy n y))) g) : RO J (rEqU K) x y g Φ := fun F H v w o d1 d2 Q q =>
  .inr ⟨_, _, dt_dp o.ex n v x d1 hx, dt_dp o.ex n w y d2 hy, shaped_py hn hx, shaped_py hn hy, q _ _ F H g k o Tr.refl (.bl _)⟩
theorem ro_ne_d (n : Nat) (hn : n ≤ 64) (hx : okPy n x = true) (hy : okPy n y = true) (k : Φ (.bl (!PyData.eqv (toPy n x) (toPy n y))) g) : RO J (rNeU K) x y g Φ := fun F H v w o d1 d2 Q q =>
  .inr ⟨_, _, dt_dp o.ex n v x d1 hx, dt_dp o.ex n w y d2 hy, shaped_py hn hx, shaped_py hn hy, q _ _ F H g k o Tr.refl (.bl _)⟩
/-- None or not -/
def isN : Dv → Bool
  | .non => true | _ => false
def noRaw : Dv → Bool
  | .raw _ => false | _ => true
theorem dt_isN {F : Hp} {v : V} {d : Dv} (h : Dt F v d) (e : noRaw d = true) : decide (v = .non) = isN d := by
  cases h <;> first | rfl | (simp [noRaw] at e)
theorem ro_is (hk : noRaw x = true ∧ Φ (.bl (isN x)) g) : RO J rIsNo x .non g Φ := fun F H v w o d1 d2 Q q => by
  obtain ⟨hx, k⟩ := hk
  cases d2
  exact ⟨rfl, by rw [dt_isN d1 hx]; exact q _ _ F H g k o Tr.refl (.bl _)⟩
theorem ro_isnt (hk : noRaw x = true ∧ Φ (.bl (!isN x)) g) : RO J rIsNt x .non g Φ := fun F H v w o d1 d2 Q q => by
  obtain ⟨hx, k⟩ := hk
  cases d2
  exact ⟨rfl, by rw [dt_isN d1 hx]; exact q _ _ F H g k o Tr.refl (.bl _)⟩
theorem ro_in_l {xs : List Dv} (hx : flatD x = true) (hs : xs.all flatD = true) (k : Φ (.bl (inD x xs)) g) : RO J (rIn K false) x (.lst xs) g Φ := fun F H v w o d1 d2 Q q => by
  obtain ⟨e1, e2⟩ := dt_flat d1 hx
  cases d2 with
  | lst ha da =>
    obtain ⟨e3, e4⟩ := dt_flats da hs
    refine ⟨_, _, rfl, .inl (.inl (.inl (o.ex _ _ ha))), e2, e4, ?_⟩
    rw [e1, e3]
    exact q _ _ F H g k o Tr.refl (.bl _)
theorem ro_in_t {xs : List Dv} (hx : flatD x = true) (hs : xs.all flatD = true) (k : Φ (.bl (inD x xs)) g) : RO J (rIn K false) x (.tup xs) g Φ := fun F H v w o d1 d2 Q q => by
  obtain ⟨e1, e2⟩ := dt_flat d1 hx
  cases d2 with
  | tup ha da =>
    obtain ⟨e3, e4⟩ := dt_flats da hs
    refine ⟨_, _, rfl, .inr (.inl (rd_same o.ex ha)), e2, e4, ?_⟩
    rw [e1, e3]
    exact q _ _ F H g k o Tr.refl (.bl _)
theorem ro_ni_l {xs : List Dv} (hx : flatD x = true) (hs : xs.all flatD = true) (k : Φ (.bl (!inD x xs)) g) : RO J (rIn K true) x (.lst xs) g Φ := fun F H v w o d1 d2 Q q => by
  obtain ⟨e1, e2⟩ := dt_flat d1 hx
  cases d2 with
  | lst ha da =>
    obtain ⟨e3, e4⟩ := dt_flats da hs
    refine ⟨_, _, rfl, .inl (.inl (.inl (o.ex _ _ ha))), e2, e4, ?_⟩
    rw [e1, e3]
    exact q _ _ F H g k o Tr.refl (.bl _)
theorem ro_ni_t {xs : List Dv} (hx : flatD x = true) (hs : xs.all flatD = true) (k : Φ (.bl (!inD x xs)) g) : RO J (rIn K true) x (.tup xs) g Φ := fun F H v w o d1 d2 Q q => by
  obtain ⟨e1, e2⟩ := dt_flat d1 hx
  cases d2 with
  | tup ha da =>
    obtain ⟨e3, e4⟩ := dt_flats da hs
    refine ⟨_, _, rfl, .inr (.inl (rd_same o.ex ha)), e2, e4, ?_⟩
    rw [e1, e3]
    exact q _ _ F H g k o Tr.refl (.bl _)
theorem DtAll.atI {F : Hp} {vs : List V} {es : List Dv} {i : Int} {d : Dv} (h : DtAll F vs es) (e : L2.atI es i = some d) : ∃ v, L2.atI vs i = some v ∧ Dt F v d := by
  unfold L2.atI at e ⊢
  rw [h.length]
  cases z : ixN es.length i with
  | none => rw [z] at e; cases e
  | some j =>
    rw [z] at e
    exact h.get e
theorem ro_ix_lE {xs : List Dv} (hk : ∃ d, atI xs i = some d ∧ Φ d g) : RO J (rIxU K) (.lst xs) (.int i) g Φ := fun F H v w o d1 d2 Q q => by
  obtain ⟨d, h, k⟩ := hk
  cases d2
  cases d1 with
  | lst ha da =>
    obtain ⟨u, h1, h2⟩ := da.atI h
    exact .inl ⟨_, _, _, u, rfl, rfl, .inl (.inl (o.ex _ _ ha)), h1, q _ _ F H g k o Tr.refl h2⟩
theorem ro_ix_l {xs : List Dv} {d : Dv} [c : AtC xs i d] (k : Φ d g) : RO J (rIxU K) (.lst xs) (.int i) g Φ := ro_ix_lE ⟨d, c.h, k⟩
theorem ro_ix_tE {xs : List Dv} (hk : ∃ d, atI xs i = some d ∧ Φ d g) : RO J (rIxU K) (.tup xs) (.int i) g Φ := fun F H v w o d1 d2 Q q => by
  obtain ⟨d, h, k⟩ := hk
  cases d2
  cases d1 with
  | tup ha da =>
    obtain ⟨u, h1, h2⟩ := da.atI h
    exact .inr ⟨_, _, _, u, rfl, rfl, .inl (rd_same o.ex ha), h1, q _ _ F H g k o Tr.refl h2⟩
theorem ro_ix_t {xs : List Dv} {d : Dv} [c : AtC xs i d] (k : Φ d g) : RO J (rIxU K) (.tup xs) (.int i) g Φ := ro_ix_tE ⟨d, c.h, k⟩
theorem ru_neg (k : Φ (.int (-i)) g) : RU J rNeg (.int i) g Φ := fun F H v o d1 Q q => by
  cases d1
  exact ⟨i, rfl, q _ _ F H g k o Tr.refl (.int _)⟩
/-- xs[lo:hi] -/
def cutD (xs : List Dv) (lo hi : Option Int) : List Dv := (xs.drop (HT.sIx xs.length 0 lo)).take (HT.sIx xs.length xs.length hi - HT.sIx xs.length 0 lo)
theorem DtAll.cut {F : Hp} {vs : List V} {es : List Dv} (h : DtAll F vs es) (lo hi : Option Int) : DtAll F (cutV vs lo hi) (cutD es lo hi) := by
  unfold cutV cutD
  rw [h.length]
  exact (h.drop _).take _
theorem rs_l {xs : List Dv} {lo hi : Option Int} (k : Φ (.lst (cutD xs lo hi)) g) : RS J (rSlU K) (.lst xs) lo hi g Φ := fun F H v o d1 Q q => by
  cases d1 with
  | lst ha da => exact .inl ⟨_, _, rfl, .inl (.inl (o.ex _ _ ha)), fin_new q k o Tr.refl fun p F2 s e => .lst e ((da.cut lo hi).mono s)⟩
theorem rs_t {xs : List Dv} {lo hi : Option Int} (k : Φ (.tup (cutD xs lo hi)) g) : RS J (rSlU K) (.tup xs) lo hi g Φ := fun F H v o d1 Q q => by
  have c1 := d1
  cases d1 with
  | tup ha da =>
    refine .inr ⟨_, _, rfl, .inl (rd_same o.ex ha), fun z => ?_, fun _ => fin_new q k o Tr.refl fun p F2 s e => .tup (.inl e) ((da.cut lo hi).mono s)⟩
    have e : cutD xs lo hi = xs := by
      rw [da.length] at z
      unfold cutD
      rw [z.1, z.2]
      simp
    rw [e] at k
    exact q _ _ F H g k o Tr.refl c1
/-! ### calls -/
theorem rc_len_l {xs : List Dv} (k : Φ (.int (xs.length : Int)) g) : RC J (rLenU K) [.lst xs] g Φ := fun F H vs o d1 Q q => by
  cases d1 with
  | cons d1 dn =>
    cases dn
    cases d1 with
    | lst ha da => exact ⟨_, _, rfl, .inl (.inl (.inl (o.ex _ _ ha))), by rw [da.length]; exact q _ _ F H g k o Tr.refl (.int _)⟩
theorem rc_len_t {xs : List Dv} (k : Φ (.int (xs.length : Int)) g) : RC J (rLenU K) [.tup xs] g Φ := fun F H vs o d1 Q q => by
  cases d1 with
  | cons d1 dn =>
    cases dn
    cases d1 with
    | tup ha da => exact ⟨_, _, rfl, .inr (.inl (rd_same o.ex ha)), by rw [da.length]; exact q _ _ F H g k o Tr.refl (.int _)⟩
theorem rc_int_b {b : Bool} (k : Φ (.int (if b then 1 else 0)) g) : RC J rIntU [.bl b] g Φ := fun F H vs o d1 Q q => by
  cases d1 with
  | cons d1 dn =>
    cases dn
    cases d1
    exact .inr ⟨b, rfl, q _ _ F H g k o Tr.refl (.int _)⟩
theorem rc_tup_l {xs : List Dv} (k : Φ (.tup xs) g) : RC J (rTupU K) [.lst xs] g Φ := fun F H vs o d1 Q q => by
  cases d1 with
  | cons d1 dn =>
    cases dn
    cases d1 with
    | lst ha da => exact ⟨_, _, rfl, .inl ⟨.inl (.inl (o.ex _ _ ha)), fin_new q k o Tr.refl fun p F2 s e => .tup (.inl e) (da.mono s)⟩⟩
theorem rc_lst_l {xs : List Dv} (k : Φ (.lst xs) g) : RC J (rLstU K) [.lst xs] g Φ := fun F H vs o d1 Q q => by
  cases d1 with
  | cons d1 dn =>
    cases dn
    cases d1 with
    | lst ha da => exact ⟨_, _, rfl, .inl (.inl (.inl (o.ex _ _ ha))), fin_new q k o Tr.refl fun p F2 s e => .lst e (da.mono s)⟩
theorem rc_lst_t {xs : List Dv} (k : Φ (.lst xs) g) : RC J (rLstU K) [.tup xs] g Φ := fun F H vs o d1 Q q => by
  cases d1 with
  | cons d1 dn =>
    cases dn
    cases d1 with
    | tup ha da => exact ⟨_, _, rfl, .inr (.inl (rd_same o.ex ha)), fin_new q k o Tr.refl fun p F2 s e => .lst e (da.mono s)⟩
theorem rc_max (k : Φ (.int (if j > i then j else i)) g) : RC J rMaxU [.int i, .int j] g Φ := fun F H vs o d1 Q q => by
  cases d1 with
  | cons d1 dn =>
    cases dn with
    | cons d2 dn =>
      cases dn
      cases d1
      cases d2
      exact ⟨i, j, rfl, q _ _ F H g k o Tr.refl (.int _)⟩
/-- sorted(set(xs)), ints -/
theorem we_sortset {w : World} (h : WE J ds g te fun d g1 => ∃ ns : List Int, d = .lst (ns.map Dv.int) ∧ ns.length ≤ 62 ∧ ∀ out : List Int, out.Pairwise (· < ·) → (∀ k, k ∈ out ↔ k ∈ ns) → Φ (.lst (out.map Dv.int)) g1) :
    WE J ds g (tCB (rSortedSet w) (tCons (tCB (rSetL K w) (tCons te tNil)) tNil)) Φ := fun F H σ o e Q q =>
  h F H σ o e _ fun v d F1 H1 g1 h1 o1 t1 d1 => by
    obtain ⟨ns, rfl, hn, k⟩ := h1
    cases d1 with
    | lst ha da =>
      rw [da.of_ints] at ha
      refine ⟨_, ns, rfl, .inl (.inl (o1.ex _ _ ha)), by have : scanBound = 4096 := rfl; omega, fun p c hp hc => ?_⟩
      have o2 := o1.put0 (p := p) (o := SetO w p (fun j => decide (j ∈ ns)) c) (o1.fnone hp) (o1.nomem hp)
      have t2 : Tr J F1 H1 F1 (upd H1 p (SetO w p (fun j => decide (j ∈ ns)) c)) := by
        refine ⟨Same.refl _, fun a u ha _ => by rw [upd_ne (ne_of_none ha hp)]; exact ha, fun _ _ n => n, fun a ha => ?_⟩
        have ne : a ≠ p := fun z => ha (by rw [z]; exact hp)
        rw [upd_ne ne]; exact ha
      refine ⟨p, _, c, rfl, upd_same, by omega, fun out l hs hm hl hq => ?_⟩
      exact fin_new q (k out hs fun z => by rw [hm z]; simp) o2 (t1.trans t2) (fun p F2 s e => .lst e (DtAll.ints out)) l hq
theorem we_cntL {t : TA} (h : WE J ds g te fun x g1 => ∃ ns : List Int, x = .lst (ns.map Dv.int) ∧ WA J ds g1 t fun es g2 => ∃ z : Int, es = [.int z] ∧ Φ (.int (ns.count z : Nat)) g2) : WE J ds g (tBM K "list" (rCntI K) te t) Φ := fun F H σ o e Q q =>
  h F H σ o e _ fun v d F1 H1 g1 h1 o1 t1 d1 => by
    obtain ⟨ns, rfl, h1⟩ := h1
    cases d1 with
    | lst ha da =>
      rw [da.of_ints] at ha
      refine ⟨.inl ⟨rfl, _, .inl (.inl (o1.ex _ _ ha))⟩, h1 F1 H1 σ o1 (e.mono t1.f) _ fun vs es F2 H2 g2 h2 o2 t2 d2 => ?_⟩
      obtain ⟨z, rfl, k⟩ := h2
      cases d2 with
      | cons d2 dn =>
        cases dn
        cases d2
        exact ⟨_, ns, z, rfl, rfl, .inl (.inl (o2.ex _ _ (t2.f _ _ ha))), q _ _ F2 H2 g2 k o2 (t1.trans t2) (.int _)⟩
theorem we_cntZ {t : TA} (h : WE J ds g te fun x g1 => ∃ ns : List Int, x = .tupz (ns.map Dv.int) ∧ WA J ds g1 t fun es g2 => ∃ z : Int, es = [.int z] ∧ Φ (.int (ns.count z : Nat)) g2) : WE J ds g (tBMZ (rCntT K) te t) Φ := fun F H σ o e Q q =>
  h F H σ o e _ fun v d F1 H1 g1 h1 o1 t1 d1 => by
    obtain ⟨ns, rfl, h1⟩ := h1
    cases d1 with
    | tupz ha hz da =>
      rw [da.of_ints] at ha
      refine ⟨⟨_, _, _, rfl, o1.ex _ _ ha, hz⟩, h1 F1 H1 σ o1 (e.mono t1.f) _ fun vs es F2 H2 g2 h2 o2 t2 d2 => ?_⟩
      obtain ⟨z, rfl, k⟩ := h2
      cases d2 with
      | cons d2 dn =>
        cases dn
        cases d2
        exact ⟨_, ns, z, rfl, rfl, .inl (.inr ⟨_, o2.ex _ _ (t2.f _ _ ha)⟩), q _ _ F2 H2 g2 k o2 (t1.trans t2) (.int _)⟩
end
/-! ### the contract of a def -/
section
variable {P : Program} {w : World} {K : PySem.W.Frag} {mg : Str → Option Value} {base : Heap}
theorem fn_D {x qual : Str} {st : Stmt} {f : Addr} {fd : FuncData} {N ps : List Str} {k : Nat} {S : DS} (F : Fun K x qual st f fd) (Sc : FnScope N ps (defScope st)) (hl : ∀ G (J : JT G) es g Φ, S G J es g Φ → es.length = ps.length)
    (hb : ∀ (cdv : Value) (A : Around) (outer : List PySem.Env) (s : Shared) (H : Hp) (E : XK), Room k (A.deeper (PyProof.Rows.envOfC qual (defScope st) s.heap.objs.size f cdv)) →
      ∃ t, PSs (cxOf CX0 P w K mg base N qual (defScope st) f cdv A outer s H E).nox (defBody st) t ∧ ∀ (G : Type) (J : JT G) es g Φ, S G J es g Φ →
        WS J (es.map some ++ List.replicate (N.length - ps.length) none) g t { nx := fun _ g' => Φ .non g', rt := Φ }) : FnOk P w K mg base CX0 (k + 1) f fd ps (spD S) := by
  refine F.ok Sc (fun vs H Q E h => ?_) (fun cdv A outer s H vs Q E hr h => ?_)
  · obtain ⟨G, J, F0, g, es, Φ, o, d, hS, q⟩ := h
    rw [d.length]
    exact hl G J es g Φ hS
  · obtain ⟨G, J, F0, g, es, Φ, o, d, hS, q⟩ := h
    obtain ⟨t, ht, hw⟩ := hb cdv A outer s H E hr
    refine ⟨t, ht, hw G J es g Φ hS F0 H _ o ?_ _ (fun σ' ds' F' H' g' h' o' t' e' => q _ _ F' H' g' h' o' t' .non) (fun v d F' H' g' h' o' t' d' => q v d F' H' g' h' o' t' d') (fun _ _ _ _ _ z => z.elim) (fun _ _ _ _ _ z => z.elim)⟩
    unfold L2.start
    rw [d.length, hl G J es g Φ hS]
    exact Env.args d (Env.nones _)
end
end TM

/-! The mirror: what the program computes, in plain Lean; and its data. -/
namespace TM
open PySem L2
/-! ### rows and mills -/
inductive Row where
  | put (d : Nat) (n : Int) | sum (d a b : Nat) | mul (d a b : Nat) | less (d a b : Nat) | take (d a : Nat) (n : Int) | lay (b a : Nat) (n : Int)
  | go (a : Nat) (p : Int) | shut | opn | home
abbrev iD (n : Nat) : Dv := .int (n : Int)
abbrev rowD : Row → Dv
  | .put d n => .tup [.str "put", iD d, .int n]
  | .sum d a b => .tup [.str "sum", iD d, iD a, iD b]
  | .mul d a b => .tup [.str "mul", iD d, iD a, iD b]
  | .less d a b => .tup [.str "less", iD d, iD a, iD b]
  | .take d a n => .tup [.str "take", iD d, iD a, .int n]
  | .lay b a n => .tup [.str "lay", iD b, iD a, .int n]
  | .go a p => .tup [.str "go", iD a, .int p]
  | .shut => .tup [.str "shut"]
  | .opn => .tup [.str "open"]
  | .home => .tup [.str "home"]
structure Mill where
  rows : List Row
  bells : List Int
abbrev intsD (xs : List Int) : List Dv := xs.map Dv.int
abbrev millD (m : Mill) : Dv := .tup [.tup (m.rows.map rowD), .tup (intsD m.bells)]
def Row.ok : Row → Prop
  | .put d n => d < 8 ∧ 0 ≤ n ∧ n < 4294967296
  | .sum d a b => d < 8 ∧ a < 8 ∧ b < 8
  | .mul d a b => d < 8 ∧ a < 8 ∧ b < 8
  | .less d a b => d < 8 ∧ a < 8 ∧ b < 8
  | .take d a n => d < 8 ∧ a < 8
  | .lay b a n => b < 8 ∧ a < 8
  | .go a p => a < 8
  | _ => True
/-! ### states -/
structure Stt where
  place : Int
  spots : List Int
  cells : List Int
  shut : Bool
  kept : Option Int
abbrev optD : Option Int → Dv
  | none => .non
  | some i => .int i
abbrev sttD (s : Stt) : Dv := .tup [.int s.place, .tup (intsD s.spots), .tup (intsD s.cells), .bl s.shut, optD s.kept]
structure Mill.ok (m : Mill) : Prop where
  rows : ∀ r ∈ m.rows, r.ok
  rb : ∀ r ∈ m.rows, ∀ a p, r = .go a p → 0 ≤ p ∧ p ≤ m.rows.length
  bells : ∀ p ∈ m.bells, 0 ≤ p ∧ p ≤ m.rows.length
  nb : m.bells.length ≤ 4
  nr : m.rows.length ≤ 40
structure Stt.ok (m : Mill) (s : Stt) : Prop where
  p0 : 0 ≤ s.place
  p1 : s.place ≤ m.rows.length
  sp : s.spots.length = 8
  ce : s.cells.length = 16
  sw : ∀ v ∈ s.spots, 0 ≤ v ∧ v < 4294967296
  cw : ∀ v ∈ s.cells, 0 ≤ v ∧ v < 4294967296
  kp : ∀ p, s.kept = some p → 0 ≤ p ∧ p ≤ m.rows.length

/-! ### the plain make -/
inductive Wr where
  | no | spot (d : Nat) (w : Int) | cell (i : Nat) (w : Int)
abbrev wrD : Wr → Dv
  | .no => .non
  | .spot d w => .tup [.str "spot", iD d, .int w]
  | .cell i w => .tup [.str "cell", iD i, .int w]
abbrev sp (spots : List Int) (a : Nat) : Int := spots.getD a 0
def cellAt (spots : List Int) (a : Nat) (n : Int) : Nat := ((sp spots a + n) % 16).toNat
def wroteBy (spots cells : List Int) : Row → Wr
  | .put d n => .spot d n
  | .sum d a b => .spot d ((sp spots a + sp spots b) % 4294967296)
  | .mul d a b => .spot d ((sp spots a * sp spots b) % 4294967296)
  | .less d a b => .spot d (if sp spots a < sp spots b then 1 else 0)
  | .take d a n => .spot d (cells.getD (cellAt spots a n) 0)
  | .lay b a n => .cell (cellAt spots a n) (sp spots b)
  | _ => .no
def placeBehind (place : Int) (spots : List Int) (kept : Option Int) : Row → Int
  | .go a p => if sp spots a ≠ 0 then p else place + 1
  | .home => kept.getD (place + 1)
  | _ => place + 1
def Mill.row (m : Mill) (p : Int) : Row := m.rows.getD p.toNat .shut
def shutBy (shut : Bool) : Row → Bool
  | .shut => true
  | .opn => false
  | .home => false
  | _ => shut
def keptBy (kept : Option Int) : Row → Option Int
  | .home => none
  | _ => kept
def putWr (s : Stt) : Wr → Stt
  | .no => s
  | .spot d w => { s with spots := s.spots.set d w }
  | .cell i w => { s with cells := s.cells.set i w }
def stepR (s : Stt) (r : Row) : Stt × Wr :=
  let w := wroteBy s.spots s.cells r
  let s' := putWr s w
  (⟨placeBehind s.place s.spots s.kept r, s'.spots, s'.cells, shutBy s.shut r, keptBy s.kept r⟩, w)
def step (m : Mill) (s : Stt) : Stt × Wr := stepR s (m.row s.place)
def bellM (m : Mill) (s : Stt) (k : Int) : Stt := { s with place := m.bells.getD k.toNat 0, shut := true, kept := some s.place }
def reads : Row → List Nat
  | .sum _ a b => if a = b then [a] else [a, b]
  | .mul _ a b => if a = b then [a] else [a, b]
  | .less _ a b => if a = b then [a] else [a, b]
  | .lay b a _ => if b = a then [b] else [b, a]
  | .take _ a _ => [a]
  | .go a _ => [a]
  | _ => []
def writes : Row → Option Nat
  | .put d _ => some d
  | .sum d _ _ => some d
  | .mul d _ _ => some d
  | .less d _ _ => some d
  | .take d _ _ => some d
  | _ => none
def slow : Row → Bool
  | .mul _ _ _ => true
  | .take _ _ _ => true
  | _ => false
abbrev natO : Option Nat → Dv
  | none => .non
  | some i => iD i
/-! ### events, how things stand -/
inductive Wro where
  | no | spot (d : Int) (w : Option Int) | cell (i : Int) (w : Option Int)
abbrev wroD : Wro → Dv
  | .no => .non
  | .spot d w => .tup [.str "spot", .int d, optD w]
  | .cell i w => .tup [.str "cell", .int i, optD w]
inductive Ev where
  | fin (beat place : Int) (w : Wro) | late (beat n w : Int) | down (beat n i w : Int) | bell (beat k : Int)
abbrev evD : Ev → Dv
  | .fin b p w => .tup [.str "end", .int b, .int p, wroD w]
  | .late b n w => .tup [.str "late", .int b, .int n, .int w]
  | .down b n i w => .tup [.str "down", .int b, .int n, .int i, .int w]
  | .bell b k => .tup [.str "bell", .int b, .int k]
def Ev.beat : Ev → Int
  | .fin b _ _ => b
  | .late b _ _ => b
  | .down b _ _ _ => b
  | .bell b _ => b
structure Ow where
  n : Int
  spot : Int
  worth : Int
  since : Int
structure La where
  n : Int
  i : Int
  worth : Int
abbrev owD (o : Ow) : Dv := .tup [.int o.n, .int o.spot, .int o.worth, .int o.since]
abbrev laD (o : La) : Dv := .tup [.int o.n, .int o.i, .int o.worth]
structure Sd where
  st : Stt
  beat : Int
  crowd : Int
  pressed : Int
  owed : List Ow
  laid : List La
  took : List Int
  ends : Int
abbrev sdD (s : Sd) : Dv := .tup [sttD s.st, .int s.beat, .int s.crowd, .int s.pressed, .tup (s.owed.map owD), .tup (s.laid.map laD), .tupz (intsD s.took), .int s.ends]
structure Tm where
  width : Int
  room : Int
  queue : Int
  patience : Int
  longest : Int
abbrev tmD (t : Tm) : Dv := .tup [.int t.width, .int t.room, .int t.queue, .int t.patience, .int t.longest]
abbrev Rings := List (Int × Int)
abbrev riD (r : Int × Int) : Dv := .tup [.int r.1, .int r.2]
abbrev ringsD (rs : Rings) : Dv := .lst (rs.map riD)
structure Rings.ok (m : Mill) (rs : Rings) : Prop where
  k : ∀ r ∈ rs, 0 ≤ r.2 ∧ r.2 < m.bells.length
  len : rs.length ≤ 60
structure Sd.ok (m : Mill) (s : Sd) : Prop where
  st : s.st.ok m
  n1 : s.owed.length ≤ 1000
  n2 : s.laid.length ≤ 1000
  n3 : s.took.length ≤ 1000
/-! ### the rules -/
def rungBy (rs : Rings) (beat : Int) : List Int := (rs.filter fun r => decide (r.1 ≤ beat)).map (·.2)
def waits (rs : Rings) (took : List Int) (beat : Int) : List Int := [0, 1, 2, 3].filter fun k => decide (took.count k < (rungBy rs beat).count k)
def pressed (rs : Rings) (sd : Sd) (beat : Int) : Bool := !sd.st.shut && !(waits rs sd.took beat).isEmpty
abbrev Cause := Option Str
abbrev causeD : Cause → Dv
  | none => .non
  | some s => .str s
def touches (r : Row) (x : Int) : Bool := (reads r).any (fun a => decide ((a : Int) = x)) || match writes r with
  | some d => decide ((d : Int) = x)
  | none => false
def wroteCause (r : Row) (tm : Tm) (sd : Sd) : Wr → Wro → Cause
  | .no, .no => none
  | .spot d w, .spot e v => if e ≠ d then some "thing" else match v with
    | none => if !slow r then some "owed" else if tm.room ≤ sd.owed.length then some "room" else none
    | some u => if u ≠ w then some "worth" else none
  | .cell d w, .cell e v => if e ≠ d then some "thing" else match v with
    | none => if !slow r then some "owed" else if tm.room ≤ sd.owed.length then some "room" else none
    | some u => if u ≠ w then some "worth" else if tm.queue ≤ sd.laid.length then some "room" else none
  | _, _ => some "thing"
def endCause (m : Mill) (rs : Rings) (tm : Tm) (sd : Sd) (beat place : Int) (w : Wro) : Cause :=
  if sd.st.place = m.rows.length then some "rest"
  else if place ≠ sd.st.place then some "place"
  else if beat = sd.beat ∧ tm.width ≤ sd.crowd then some "crowd"
  else if tm.patience ≤ sd.pressed ∧ pressed rs sd beat = true then some "bell"
  else if (sd.owed.any fun o => touches (m.row sd.st.place) o.spot) = true then some "ahead"
  else wroteCause (m.row sd.st.place) tm sd (wroteBy sd.st.spots sd.st.cells (m.row sd.st.place)) w
def lateCause (sd : Sd) (n w : Int) : Cause := match sd.owed.find? fun o => decide (o.n = n) with
  | none => some "stray"
  | some o => if o.worth ≠ w then some "worth" else none
def downCause (sd : Sd) (n i w : Int) : Cause := match sd.laid with
  | [] => some "stray"
  | o :: _ => if o.n ≠ n then some "stray" else if o.i ≠ i then some "thing" else if o.worth ≠ w then some "worth" else none
def bellCause (rs : Rings) (sd : Sd) (beat k : Int) : Cause :=
  if k ∉ waits rs sd.took beat then some "stray" else if sd.st.shut = true then some "shut" else if (waits rs sd.took beat).headD 0 < k then some "order" else none
def causeOf (m : Mill) (rs : Rings) (tm : Tm) (sd : Sd) (e : Ev) : Cause :=
  if e.beat < sd.beat then some "beat"
  else if (sd.owed.any fun o => decide (o.since + tm.longest < e.beat)) = true then some "overdue"
  else match e with
    | .fin b p w => endCause m rs tm sd b p w
    | .late _ n w => lateCause sd n w
    | .down _ n i w => downCause sd n i w
    | .bell b k => bellCause rs sd b k
def isOwed : Wro → Bool
  | .spot _ none => true
  | .cell _ none => true
  | _ => false
def takenUp (m : Mill) (rs : Rings) (sd : Sd) (e : Ev) : Sd :=
  let crowd := if sd.beat < e.beat then 0 else sd.crowd
  match e with
  | .late b n _ => { sd with beat := b, crowd := crowd, owed := sd.owed.filter fun o => decide (o.n ≠ n) }
  | .down b _ _ _ => { sd with beat := b, crowd := crowd, laid := sd.laid.drop 1 }
  | .bell b k => { sd with beat := b, crowd := crowd, st := bellM m sd.st k, took := sd.took ++ [k], pressed := 0 }
  | .fin b _ w => 
    let r := step m sd.st
    let sd' := { sd with beat := b, crowd := crowd + 1, pressed := if pressed rs sd b then sd.pressed + 1 else 0, st := r.1, ends := sd.ends + 1 }
    match r.2 with
    | .no => sd'
    | .spot d x => if isOwed w then { sd' with owed := sd.owed ++ [⟨sd.ends, d, x, b⟩] } else sd'
    | .cell i x => if isOwed w then { sd' with owed := sd.owed ++ [⟨sd.ends, i, x, b⟩] } else { sd' with laid := sd.laid ++ [⟨sd.ends, i, x⟩] }
def firstStand (s : Stt) : Sd := ⟨s, 0, 0, 0, [], [], [], 0⟩
/-- where a diary parts -/
def part (m : Mill) (rs : Rings) (tm : Tm) : Int → Sd → List Ev → Option (Int × Str)
  | _, _, [] => none
  | i, sd, e :: es => match causeOf m rs tm sd e with
    | some c => some (i, c)
    | none => part m rs tm (i + 1) (takenUp m rs sd e) es
abbrev partD : Option (Int × Str) → Dv
  | none => .non
  | some p => .tup [.int p.1, .str p.2]
end TM

/-! Layer C3: comprehensions and loops over the data of a list; places of lists. -/
namespace TM
open PySem L2
section
variable {G : Type} {J : JT G} {ds : DE} {g : G} {Φ : Dv → G → Prop} {te : TE} {tt : TT} {E : Es G} {t : TS} {wi : TI} {tg : TG} {vs : List Nat}
theorem ws_never (h : False) : WS J ds g tNever E := h.elim
theorem ne_nil {α : Type} {xs : List α} {x : α} {i : Nat} (h : xs[i]? = some x) : x ∈ xs := List.mem_of_getElem? h
/-- [te for .. in l if tt], no state changed -/
theorem we_lcX {f : DE → Dv → Option DE} (ht : TgOk tg vs f)
    (h : WI J ds g wi fun xs g1 => ∃ (α : Type) (l : List α) (enc : α → Dv) (p : α → Bool) (v : α → Dv), xs = l.map enc ∧ l.length ≤ 50000 ∧
      (∀ r, r ∈ l → ∃ ds2, f (wipeD ds vs) (enc r) = some ds2 ∧ WT J ds2 g1 tt fun b g2 => (b = true → WE J ds2 g2 te fun d g3 => p r = true ∧ d = v r ∧ g3 = g1) ∧ (b = false → p r = false ∧ g2 = g1)) ∧
      Φ (.lst ((l.filter p).map v)) g1) : WE J ds g (tLc wi tg tt te vs) Φ := we_lc ht fun F H σ o e R q => h F H σ o e R fun it xs F' H' g' hx o' t' s' => q it xs F' H' g' (by
  obtain ⟨α, l, enc, p, v, rfl, hl, hs, k⟩ := hx
  refine ⟨by rw [List.length_map]; exact hl, fun i acc g2 => g2 = g' ∧ acc = ((l.take i).filter p).map v, ⟨rfl, by simp⟩, ?_, ?_⟩
  · rintro i x acc g2 hi ⟨rfl, rfl⟩
    rw [List.getElem?_map] at hi
    cases hr : l[i]? with
    | none => rw [hr] at hi; cases hi
    | some r =>
      rw [hr] at hi
      obtain rfl := Option.some.inj hi
      obtain ⟨ds2, hf, hw⟩ := hs r (ne_nil hr)
      refine ⟨ds2, hf, fun F H σ o e Q q => hw F H σ o e Q fun b F' H' g3 h3 o3 t3 => q b F' H' g3 ⟨fun eb => ?_, fun eb => ?_⟩ o3 t3⟩
      · refine (h3.1 eb).imp fun d g4 h4 => ?_
        obtain ⟨h5, h6, h7⟩ := h4
        subst h6
        subst h7
        refine ⟨rfl, ?_⟩
        rw [List.take_add_one, hr, List.filter_append, List.map_append]
        simp [h5]
      · obtain ⟨h5, h7⟩ := h3.2 eb
        subst h7
        refine ⟨rfl, ?_⟩
        rw [List.take_add_one, hr, List.filter_append, List.map_append]
        simp [h5]
  · rintro acc g2 ⟨rfl, rfl⟩
    rw [List.length_map, List.take_length]
    exact k) o' t' s'
theorem we_lcM {f : DE → Dv → Option DE} {α : Type} (l : List α) (enc : α → Dv) (p : α → Bool) (v : α → Dv) (ht : TgOk tg vs f)
    (h : WI J ds g wi fun xs g1 => xs = l.map enc ∧ l.length ≤ 50000 ∧
      (∀ r, r ∈ l → ∃ ds2, f (wipeD ds vs) (enc r) = some ds2 ∧ WT J ds2 g1 tt fun b g2 => (b = true → WE J ds2 g2 te fun d g3 => p r = true ∧ d = v r ∧ g3 = g1) ∧ (b = false → p r = false ∧ g2 = g1)) ∧
      Φ (.lst ((l.filter p).map v)) g1) : WE J ds g (tLc wi tg tt te vs) Φ := we_lcX ht fun F H σ o e R q => h F H σ o e R fun it xs F' H' g' hx => q it xs F' H' g' ⟨α, l, enc, p, v, hx⟩
theorem Env.wipes {F : Hp} {σ : St} {ds : List (Option Dv)} (h : Env F σ ds) : ∀ vs : List Nat, Env F σ (wipeD ds vs)
  | [] => h
  | v :: vs => by
    have q := Env.wipes h vs
    unfold wipeD
    clear h
    revert q
    generalize wipeD ds vs = es
    intro q
    induction q generalizing v with
    | en0 => exact .en0
    | ens d t ih =>
      cases v with
      | zero => exact .enn t
      | succ v => exact .ens d (ih v)
    | enn t ih =>
      cases v with
      | zero => exact .enn t
      | succ v => exact .enn (ih v)
/-- a loop whose own names are forgotten from turn to turn -/
theorem ws_forS (h : WI J ds g wi fun xs g1 => ∃ I : Nat → G → Prop, I 0 g1 ∧
      (∀ i x g', xs[i]? = some x → I i g' → WG J (wipeD ds vs) g' tg x fun ds2 g2 => WS J ds2 g2 t { nx := fun ds' g3 => wipeD ds' vs = wipeD ds vs ∧ I (i + 1) g3, ct := fun ds' g3 => wipeD ds' vs = wipeD ds vs ∧ I (i + 1) g3, bk := E.nx, rt := E.rt }) ∧
      (∀ g', I xs.length g' → E.nx (wipeD ds vs) g')) : WS J ds g (tFor wi tg t) E := fun F H σ o e D n r b c =>
  h F H σ o e _ fun it xs F1 H1 g1 h1 o1 t1 sr => by
    obtain ⟨I, h0, hs, hd⟩ := h1
    refine ⟨fun i m σ' H' => m = xs.length - i ∧ i ≤ xs.length ∧ ∃ F' g', I i g' ∧ J.Ok F' H' g' ∧ Tr J F1 H1 F' H' ∧ Env F' σ' (wipeD ds vs), ⟨xs.length, by simp, Nat.zero_le _, F1, g1, h0, o1, Tr.refl, (e.mono t1.f).wipes vs⟩, ?_⟩
    rintro i m σ' H' ⟨rfl, hi, F', g', hI, o', t', e'⟩
    by_cases hlt : i < xs.length
    · refine .inr ⟨sr.go F' H' i t'.f o'.ex hlt, fun σ2 H2 => ∃ F2 g2, I (i + 1) g2 ∧ J.Ok F2 H2 g2 ∧ Tr J F1 H1 F2 H2 ∧ Env F2 σ2 (wipeD ds vs), fun σ2 H2 z => ⟨xs.length - (i + 1), by omega, rfl, hlt, z⟩, fun v H2 y => ?_⟩
      obtain ⟨rfl, x, hx, dx⟩ := sr.yld F' H' i v H2 t'.f o'.ex y hlt
      refine hs i x g' hx hI F' _ σ' v o' e' dx _ fun σ3 ds3 F3 H3 g3 h3 o3 t3 e3 => ?_
      have fin : ∀ σ4 ds4 F4 H4 g4, wipeD ds4 vs = wipeD ds vs ∧ I (i + 1) g4 → J.Ok F4 H4 g4 → Tr J F3 H3 F4 H4 → Env F4 σ4 ds4 → ∃ F2 g2, I (i + 1) g2 ∧ J.Ok F2 H4 g2 ∧ Tr J F1 H1 F2 H4 ∧ Env F2 σ4 (wipeD ds vs) :=
        fun σ4 ds4 F4 H4 g4 h4 o4 t4 e4 => ⟨F4, g4, h4.2, o4, (t'.trans t3).trans t4, by rw [← h4.1]; exact e4.wipes vs⟩
      exact h3 F3 H3 σ3 o3 e3 _ fin (fun w d F4 H4 g4 h4 o4 t4 e4 => r w d F4 H4 g4 h4 o4 (((t1.trans t').trans t3).trans t4) e4)
        (fun σ4 ds4 F4 H4 g4 h4 o4 t4 e4 => n σ4 ds4 F4 H4 g4 h4 o4 (((t1.trans t').trans t3).trans t4) e4) fin
    · have ei : i = xs.length := by omega
      subst ei
      exact .inl ⟨sr.stop F' H' t'.f o'.ex, n σ' _ F' H' g' (hd g' hI) o' (t1.trans t') e'⟩
theorem find_take {α : Type} {l : List α} {p : α → Bool} {i : Nat} {r : α} (hr : l[i]? = some r) (h : ∀ x, x ∈ l.take i → p x = false) (hp : p r = true) : l.find? p = some r := by
  have e : l = l.take i ++ (r :: l.drop (i + 1)) := by
    have hi : i < l.length := (List.getElem?_eq_some_iff.mp hr).1
    have hv : l[i] = r := (List.getElem?_eq_some_iff.mp hr).2
    rw [← hv, ← List.drop_eq_getElem_cons hi, List.take_append_drop]
  rw [e, List.find?_append, List.find?_cons_of_pos hp]
  have : (l.take i).find? p = none := List.find?_eq_none.mpr fun x hx => by rw [h x hx]; exact Bool.false_ne_true
  rw [this]
  rfl
/-- a loop that looks for the first item of a kind and leaves there -/
theorem ws_find {α : Type} (l : List α) (enc : α → Dv) (p : α → Bool) (h : WI J ds g wi fun xs g1 => xs = l.map enc ∧
      (∀ r, r ∈ l → (p r = true → l.find? p = some r) → WG J (wipeD ds vs) g1 tg (enc r) fun ds2 g2 => WS J ds2 g2 t { nx := fun ds' g3 => wipeD ds' vs = wipeD ds vs ∧ p r = false ∧ g3 = g1, ct := fun ds' g3 => wipeD ds' vs = wipeD ds vs ∧ p r = false ∧ g3 = g1, bk := E.nx, rt := E.rt }) ∧
      (l.find? p = none → E.nx (wipeD ds vs) g1)) : WS J ds g (tFor wi tg t) E := ws_forS (vs := vs) fun F H σ o e R q => h F H σ o e R fun it xs F' H' g' hx o' t' s' => q it xs F' H' g' (by
  obtain ⟨rfl, hs, k⟩ := hx
  refine ⟨fun i g2 => g2 = g' ∧ ∀ x, x ∈ l.take i → p x = false, ⟨rfl, by simp⟩, ?_, ?_⟩
  · rintro i x g2 hi ⟨rfl, hp⟩
    rw [List.getElem?_map] at hi
    cases hr : l[i]? with
    | none => rw [hr] at hi; cases hi
    | some r =>
      rw [hr] at hi
      obtain rfl := Option.some.inj hi
      have nxt : p r = false → ∀ x, x ∈ l.take (i + 1) → p x = false := fun z x hx => by
        rw [List.take_add_one, hr, List.mem_append] at hx
        rcases hx with hx | hx
        · exact hp x hx
        · have : x = r := by simpa using hx
          rw [this]; exact z
      have hw := hs r (ne_nil hr) (find_take hr hp)
      intro F H σ v o e d Q q
      refine hw F H σ v o e d Q fun σ' ds' F' H' g3 h3 o3 t3 e3 => q σ' ds' F' H' g3 ?_ o3 t3 e3
      intro F H σ o e D n r' b c
      exact h3 F H σ o e D (fun σ4 ds4 F4 H4 g4 h4 => n σ4 ds4 F4 H4 g4 ⟨h4.1, h4.2.2, nxt h4.2.1⟩) r' b (fun σ4 ds4 F4 H4 g4 h4 => c σ4 ds4 F4 H4 g4 ⟨h4.1, h4.2.2, nxt h4.2.1⟩)
  · rintro g2 ⟨rfl, hp⟩
    rw [List.length_map, List.take_length] at hp
    exact k (List.find?_eq_none.mpr fun x hx => by rw [hp x hx]; exact Bool.false_ne_true)) o' t' s'
end
/-! ### places -/
theorem at_get {xs : List Dv} {a : Nat} {d : Dv} (h : xs[a]? = some d) : atI xs (a : Int) = some d := atI_nat h
theorem at_ints {xs : List Int} {a : Nat} (h : a < xs.length) : atI (intsD xs) (a : Int) = some (.int (xs.getD a 0)) := at_get (by
  rw [List.getElem?_map, List.getElem?_eq_getElem h, List.getD_eq_getElem?_getD, List.getElem?_eq_getElem h]
  rfl)
theorem at_intsI {xs : List Int} {p : Int} (h0 : 0 ≤ p) (h : p < xs.length) : atI (intsD xs) p = some (.int (xs.getD p.toNat 0)) := by
  obtain ⟨a, rfl⟩ := Int.eq_ofNat_of_zero_le h0
  rw [Int.toNat_natCast]
  exact at_ints (by omega)
theorem at_rows {m : Mill} {p : Int} (h0 : 0 ≤ p) (h : p < m.rows.length) : atI (m.rows.map rowD) p = some (rowD (m.row p)) := by
  obtain ⟨a, rfl⟩ := Int.eq_ofNat_of_zero_le h0
  have ha : a < m.rows.length := by omega
  refine at_get ?_
  unfold Mill.row
  rw [List.getElem?_map, List.getElem?_eq_getElem ha, Int.toNat_natCast, List.getD_eq_getElem?_getD, List.getElem?_eq_getElem ha]
  rfl
theorem row_ok {m : Mill} {p : Int} (hm : m.ok) (h0 : 0 ≤ p) (h : p < m.rows.length) : (m.row p).ok := by
  obtain ⟨a, rfl⟩ := Int.eq_ofNat_of_zero_le h0
  have ha : a < m.rows.length := by omega
  unfold Mill.row
  rw [Int.toNat_natCast, List.getD_eq_getElem?_getD, List.getElem?_eq_getElem ha]
  exact hm.rows _ (List.getElem_mem ha)
theorem cellAt_lt (sp : List Int) (a : Nat) (n : Int) : cellAt sp a n < 16 := by
  unfold cellAt
  omega
theorem cellAt_int (sp : List Int) (a : Nat) (n : Int) : (cellAt sp a n : Int) = (sp.getD a 0 + n) % 16 := by
  unfold cellAt TM.sp
  omega
end TM
namespace TM
open PySem L2
theorem cut_take {xs : List Dv} {i : Nat} (h : i ≤ xs.length) : cutD xs none (some (i : Int)) = xs.take i := by
  unfold cutD
  rw [HT.sIx_none, HT.sIx_nat, Nat.min_eq_left h]
  simp
theorem cut_drop {xs : List Dv} {i : Nat} (h : i ≤ xs.length) : cutD xs (some (i : Int)) none = xs.drop i := by
  unfold cutD
  rw [HT.sIx_none, HT.sIx_nat, Nat.min_eq_left h]
  exact List.take_of_length_le (by rw [List.length_drop]; exact Nat.le_refl _)
theorem cut_mid {xs : List Int} {i : Nat} {w : Int} (h : i < xs.length) : (intsD xs).take i ++ [Dv.int w] ++ (intsD xs).drop (i + 1) = intsD (xs.set i w) := by
  rw [← List.map_take, ← List.map_drop, List.set_eq_take_append_cons_drop, if_pos h]
  simp
end TM

namespace TM
open PySem L2
theorem sp_bd {sp : List Int} {a : Nat} (h : ∀ v ∈ sp, 0 ≤ v ∧ v < 4294967296) (ha : a < sp.length) : 0 ≤ sp.getD a 0 ∧ sp.getD a 0 < 4294967296 := by
  rw [List.getD_eq_getElem?_getD, List.getElem?_eq_getElem ha]
  exact h _ (List.getElem_mem ha)
end TM

namespace TM
theorem i_t {b : Bool} {A B : Prop} (hb : b = true) (h : A) : (b = true → A) ∧ (b = false → B) := by
  subst hb
  exact ⟨fun _ => h, fun z => Bool.noConfusion z⟩
theorem i_f {b : Bool} {A B : Prop} (hb : b = false) (h : B) : (b = true → A) ∧ (b = false → B) := by
  subst hb
  exact ⟨fun z => Bool.noConfusion z, fun _ => h⟩
end TM
namespace TM
open PySem L2
/-- rising lists with the same members are the same -/
theorem rising_eq : ∀ {xs ys : List Int}, xs.Pairwise (· < ·) → ys.Pairwise (· < ·) → (∀ k, k ∈ xs ↔ k ∈ ys) → xs = ys
  | [], [], _, _, _ => rfl
  | [], y :: ys, _, _, h => by
    have := (h y).mpr (by simp)
    simp at this
  | x :: xs, [], _, _, h => by
    have := (h x).mp (by simp)
    simp at this
  | x :: xs, y :: ys, h1, h2, h => by
    rw [List.pairwise_cons] at h1 h2
    have e : x = y := by
      have a1 : y ∈ x :: xs := (h y).mpr (by simp)
      have a2 : x ∈ y :: ys := (h x).mp (by simp)
      rcases List.mem_cons.mp a1 with q | q
      · exact q.symm
      · rcases List.mem_cons.mp a2 with r | r
        · exact r
        · have := h1.1 y q
          have := h2.1 x r
          omega
    subst e
    have ih := rising_eq h1.2 h2.2 fun k => by
      have hk := h k
      rw [List.mem_cons, List.mem_cons] at hk
      constructor
      · intro m
        rcases hk.mp (.inr m) with q | q
        · have := h1.1 k m
          omega
        · exact q
      · intro m
        rcases hk.mpr (.inr m) with q | q
        · have := h2.1 k m
          omega
        · exact q
    rw [ih]
theorem waits_eq {m : Mill} {rs : Rings} {took out : List Int} {beat : Int} (hr : Rings.ok m rs) (hb : m.bells.length ≤ 4) (hs : out.Pairwise (· < ·)) (hm : ∀ k, k ∈ out ↔ k ∈ rungBy rs beat) :
    (out.filter fun k => decide (took.count k < (rungBy rs beat).count k)) = waits rs took beat := by
  unfold waits
  refine rising_eq (hs.filter _) (List.Pairwise.filter _ (by decide)) fun k => ?_
  rw [List.mem_filter, List.mem_filter, hm k]
  constructor
  · rintro ⟨h1, h2⟩
    refine ⟨?_, h2⟩
    unfold rungBy at h1
    obtain ⟨r, hr1, rfl⟩ := List.mem_map.mp h1
    have q := hr.k r (List.mem_filter.mp hr1).1
    have : r.2 = 0 ∨ r.2 = 1 ∨ r.2 = 2 ∨ r.2 = 3 := by omega
    simpa using this
  · rintro ⟨_, h2⟩
    refine ⟨?_, h2⟩
    have : 0 < (rungBy rs beat).count k := by
      have := of_decide_eq_true h2
      omega
    exact List.count_pos_iff.mp this
end TM
namespace TM
open PySem L2
theorem out_len {m : Mill} {rs : Rings} {out : List Int} {beat : Int} (hr : Rings.ok m rs) (hb : m.bells.length ≤ 4) (hs : out.Pairwise (· < ·)) (hm : ∀ k, k ∈ out ↔ k ∈ rungBy rs beat) : out.length ≤ 50000 := by
  have e : out = [0, 1, 2, 3].filter fun k => decide (k ∈ rungBy rs beat) := by
    refine rising_eq hs (List.Pairwise.filter _ (by decide)) fun k => ?_
    rw [List.mem_filter, hm k]
    constructor
    · intro h1
      refine ⟨?_, decide_eq_true h1⟩
      unfold rungBy at h1
      obtain ⟨r, hr1, rfl⟩ := List.mem_map.mp h1
      have q := hr.k r (List.mem_filter.mp hr1).1
      have : r.2 = 0 ∨ r.2 = 1 ∨ r.2 = 2 ∨ r.2 = 3 := by omega
      simpa using this
    · rintro ⟨_, h2⟩
      exact of_decide_eq_true h2
  rw [e]
  have := List.length_filter_le (fun k => decide (k ∈ rungBy rs beat)) [0, 1, 2, 3]
  simp only [List.length_cons, List.length_nil] at this
  omega
end TM
namespace TM
open PySem L2
section
variable {G : Type} {J : JT G} {ds : DE} {g : G} {Φ : Dv → G → Prop} {K : PySem.W.Frag}
theorem ro_ne_si {a b : Str} {i j : Int} (ha : PyData.strOk a = true) (hb : PyData.strOk b = true) (k : Φ (.bl (!(decide (a = b) && decide (i = j)))) g) : RO J (rNeU K) (.tup [.str a, .int i]) (.tup [.str b, .int j]) g Φ :=
  ro_ne_d 1 (by decide) (by simp [okPy, ha]) (by simp [okPy, hb]) (by
    have e : PyData.eqv (toPy 1 (.tup [.str a, .int i])) (toPy 1 (.tup [.str b, .int j])) = (decide (a = b) && decide (i = j)) := by
      by_cases h1 : a = b <;> by_cases h2 : i = j <;> simp [toPy, PyData.eqv, PyData.eqvAll, h1, h2]
    rw [e]; exact k)
theorem eqv_nilL {n : Nat} (xs : List Dv) : PyData.eqv (toPy (n + 1) (.lst xs)) (toPy (n + 1) (.lst [])) = xs.isEmpty := by
  cases xs <;> simp [toPy, PyData.eqv, PyData.eqvAll]
theorem eqv_nilT {n : Nat} (xs : List Dv) : PyData.eqv (toPy (n + 1) (.tup xs)) (toPy (n + 1) (.tup [])) = xs.isEmpty := by
  cases xs <;> simp [toPy, PyData.eqv, PyData.eqvAll]
theorem ro_ne_nilL {xs : List Dv} (n : Nat) (hn : n < 60) (hx : xs.all (okPy n) = true) (k : Φ (.bl (!xs.isEmpty)) g) : RO J (rNeU K) (.lst xs) (.lst []) g Φ :=
  ro_ne_d (n + 1) (by omega) (by simpa [okPy] using hx) (by simp [okPy]) (by rw [eqv_nilL]; exact k)
theorem ro_eq_nilL {xs : List Dv} (n : Nat) (hn : n < 60) (hx : xs.all (okPy n) = true) (k : Φ (.bl xs.isEmpty) g) : RO J (rEqU K) (.lst xs) (.lst []) g Φ :=
  ro_eq_d (n + 1) (by omega) (by simpa [okPy] using hx) (by simp [okPy]) (by rw [eqv_nilL]; exact k)
theorem ro_ne_nilT {xs : List Dv} (n : Nat) (hn : n < 60) (hx : xs.all (okPy n) = true) (k : Φ (.bl (!xs.isEmpty)) g) : RO J (rNeU K) (.tup xs) (.tup []) g Φ :=
  ro_ne_d (n + 1) (by omega) (by simpa [okPy] using hx) (by simp [okPy]) (by rw [eqv_nilT]; exact k)
theorem ro_eq_nilT {xs : List Dv} (n : Nat) (hn : n < 60) (hx : xs.all (okPy n) = true) (k : Φ (.bl xs.isEmpty) g) : RO J (rEqU K) (.tup xs) (.tup []) g Φ :=
  ro_eq_d (n + 1) (by omega) (by simpa [okPy] using hx) (by simp [okPy]) (by rw [eqv_nilT]; exact k)
theorem ok_ints (n : Nat) (xs : List Int) : (intsD xs).all (okPy n) = true := by
  rw [List.all_map, List.all_eq_true]
  intro x _
  cases n <;> rfl
theorem ok_la (n : Nat) (xs : List La) : (xs.map laD).all (okPy (n + 1)) = true := by
  rw [List.all_map, List.all_eq_true]
  intro x _
  cases n <;> simp [okPy]
theorem ok_ow (n : Nat) (xs : List Ow) : (xs.map owD).all (okPy (n + 1)) = true := by
  rw [List.all_map, List.all_eq_true]
  intro x _
  cases n <;> simp [okPy]
end
end TM
namespace TM
open PySem L2
theorem flat_ints (xs : List Int) : (intsD xs).all flatD = true := by
  rw [List.all_map, List.all_eq_true]
  intro x _
  rfl
theorem inD_ints (k : Int) (xs : List Int) : inD (.int k) (intsD xs) = decide (k ∈ xs) := by
  unfold inD inV
  rw [List.map_map, List.any_map]
  rw [Bool.eq_iff_iff, List.any_eq_true, decide_eq_true_iff]
  constructor
  · rintro ⟨x, hx, e⟩
    have : x = k := by simpa [flatOf, eqV] using e
    rw [← this]; exact hx
  · intro h
    exact ⟨k, h, by simp [flatOf, eqV]⟩
end TM
namespace TM
open PySem L2
theorem at_cons0 {x : Dv} {xs : List Dv} : atI (x :: xs) 0 = some x := atI_nat (j := 0) rfl
theorem flat_app {xs : List Dv} {d : Dv} (h : xs.all flatD = true) (hd : flatD d = true) : (xs ++ [d]).all flatD = true := by
  rw [List.all_append, h]
  simp [hd]
theorem flat_reads (r : Row) : ((reads r).map iD).all flatD = true := by
  rw [List.all_map, List.all_eq_true]
  intro x _
  rfl
theorem inD_touch (r : Row) (k : Int) : inD (.int k) ((reads r).map iD ++ [natO (writes r)]) = touches r k := by
  unfold inD inV touches
  rw [List.map_append, List.any_append, List.map_map, List.any_map]
  have e1 : ((fun y => eqV y (flatOf (Dv.int k))) ∘ flatOf ∘ iD) = fun a : Nat => decide ((a : Int) = k) := by
    funext a
    simp [flatOf, eqV, Bool.beq_eq_decide_eq]
  rw [e1]
  cases writes r <;> simp [flatOf, eqV, Bool.beq_eq_decide_eq]
end TM
namespace TM
open PySem L2
section
variable {m : Mill} {rs : Rings} {tm : Tm} {sd : Sd} {e : Ev}
theorem cause_beat (h : e.beat < sd.beat) : causeOf m rs tm sd e = some "beat" := by
  unfold causeOf
  exact if_pos h
theorem cause_over (h : ¬ e.beat < sd.beat) (h2 : (sd.owed.any fun o => decide (o.since + tm.longest < e.beat)) = true) : causeOf m rs tm sd e = some "overdue" := by
  unfold causeOf
  rw [if_neg h]
  exact if_pos h2
theorem cause_rest (h : ¬ e.beat < sd.beat) (h2 : (sd.owed.find? fun o => decide (o.since + tm.longest < e.beat)) = none) : causeOf m rs tm sd e = match e with
    | .fin b p w => endCause m rs tm sd b p w
    | .late _ n w => lateCause sd n w
    | .down _ n i w => downCause sd n i w
    | .bell b k => bellCause rs sd b k := by
  unfold causeOf
  have hn : ¬ (sd.owed.any fun o => decide (o.since + tm.longest < e.beat)) = true := by
    intro q
    obtain ⟨o, ho, c⟩ := List.any_eq_true.mp q
    exact absurd c (List.find?_eq_none.mp h2 o ho)
  (rw [if_neg h, if_neg hn]) <;> (cases e <;> rfl)
end
theorem any_of {α : Type} {l : List α} {p : α → Bool} {x : α} (h : x ∈ l) (hp : p x = true) : l.any p = true := List.any_eq_true.mpr ⟨x, h, hp⟩
theorem not_any {α : Type} {l : List α} {p : α → Bool} (h : l.find? p = none) : l.any p = false := by
  rw [Bool.eq_false_iff]
  intro q
  obtain ⟨x, hx, c⟩ := List.any_eq_true.mp q
  exact absurd c (List.find?_eq_none.mp h x hx)
end TM

namespace TM
open PySem L2
section
variable {G : Type} {J : JT G} {ds : DE} {g : G} {Φ : Dv → G → Prop} {te : TE} {tt tu : TT} {E : Es G} {Ψ : Bool → G → Prop}
/-- tests whose answers are known, no state changed -/
theorem wt_andX (a c : Bool) (h1 : WT J ds g tt fun b g' => b = a ∧ g' = g) (h2 : a = true → WT J ds g tu fun b g' => b = c ∧ g' = g) (k : Ψ (a && c) g) : WT J ds g (tAnd tt tu) Ψ := wt_and fun F H σ o e Q q =>
  h1 F H σ o e Q fun b F' H' g' h o' t' => q b F' H' g' (by
    obtain ⟨rfl, rfl⟩ := h
    refine ⟨fun z => ?_, fun z => ?_⟩
    · intro F H σ o e Q q
      refine h2 z F H σ o e Q fun c' F' H' g2 h o' t' => q c' F' H' g2 ?_ o' t'
      obtain ⟨rfl, rfl⟩ := h
      rw [z] at k
      exact k
    · rw [z] at k
      exact k) o' t'
theorem wt_orX (a c : Bool) (h1 : WT J ds g tt fun b g' => b = a ∧ g' = g) (h2 : a = false → WT J ds g tu fun b g' => b = c ∧ g' = g) (k : Ψ (a || c) g) : WT J ds g (tOr tt tu) Ψ := wt_or fun F H σ o e Q q =>
  h1 F H σ o e Q fun b F' H' g' h o' t' => q b F' H' g' (by
    obtain ⟨rfl, rfl⟩ := h
    refine ⟨fun z => ?_, fun z => ?_⟩
    · rw [z] at k
      exact k
    · intro F H σ o e Q q
      refine h2 z F H σ o e Q fun c' F' H' g2 h o' t' => q c' F' H' g2 ?_ o' t'
      obtain ⟨rfl, rfl⟩ := h
      rw [z] at k
      exact k) o' t'
/-- if t: x = e, joined -/
theorem ws_ifX {i : Nat} {f : Dv → DE} {d0 : Dv} [c : SetF ds i f] [c0 : GetC ds i d0] (a : Bool) (d : Dv) (h1 : WT J ds g tt fun b g' => b = a ∧ g' = g) (h2 : a = true → WE J ds g te fun d' g' => d' = d ∧ g' = g) (h3 : a = false → d0 = d)
    (k : E.nx (f d) g) : WS J ds g (tIfS tt (tAsg te (gName i)) tNext) E := ws_if fun F H σ o e Q q => h1 F H σ o e Q fun b F' H' g' h o' t' => q b F' H' g' (by
  obtain ⟨rfl, rfl⟩ := h
  refine ⟨fun z => ?_, fun z => ?_⟩
  · refine ws_set ((h2 z).imp fun d' g2 h => ?_)
    obtain ⟨rfl, rfl⟩ := h
    exact k
  · refine ws_next ?_
    have e0 := h3 z
    subst e0
    have e1 : f d0 = ds := by
      rw [← c.h]
      have h := c0.h
      exact List.ext_getElem? fun j => by
        rw [List.getElem?_set]
        split
        · rename_i hij
          subst hij
          split
          · exact h.symm
          · rename_i hl
            rw [List.getElem?_eq_none (by omega)] at h
            cases h
        · rfl
    rw [e1] at k
    exact k) o' t'
end
section
variable {m : Mill} {rs : Rings} {tm : Tm} {sd : Sd} {b p : Int} {w : Wro}
theorem end_rest (h : sd.st.place = m.rows.length) : endCause m rs tm sd b p w = some "rest" := if_pos h
theorem end_place (h : ¬ sd.st.place = m.rows.length) (h1 : p ≠ sd.st.place) : endCause m rs tm sd b p w = some "place" := by
  unfold endCause
  rw [if_neg h]
  exact if_pos h1
theorem end_crowd (h : ¬ sd.st.place = m.rows.length) (h1 : ¬ p ≠ sd.st.place) (h2 : (decide (b = sd.beat) && decide (tm.width ≤ sd.crowd)) = true) : endCause m rs tm sd b p w = some "crowd" := by
  unfold endCause
  rw [if_neg h, if_neg h1]
  refine if_pos ?_
  simpa using h2
theorem end_bell (h : ¬ sd.st.place = m.rows.length) (h1 : ¬ p ≠ sd.st.place) (h2 : (decide (b = sd.beat) && decide (tm.width ≤ sd.crowd)) = false) (h3 : (decide (tm.patience ≤ sd.pressed) && pressed rs sd b) = true) : endCause m rs tm sd b p w = some "bell" := by
  unfold endCause
  rw [if_neg h, if_neg h1, if_neg (by simpa using h2)]
  refine if_pos ?_
  simpa using h3
theorem end_ahead (h : ¬ sd.st.place = m.rows.length) (h1 : ¬ p ≠ sd.st.place) (h2 : (decide (b = sd.beat) && decide (tm.width ≤ sd.crowd)) = false) (h3 : (decide (tm.patience ≤ sd.pressed) && pressed rs sd b) = false)
    (h4 : (sd.owed.any fun o => touches (m.row sd.st.place) o.spot) = true) : endCause m rs tm sd b p w = some "ahead" := by
  unfold endCause
  rw [if_neg h, if_neg h1, if_neg (by simpa using h2), if_neg (by simpa using h3)]
  exact if_pos h4
theorem end_wrote (h : ¬ sd.st.place = m.rows.length) (h1 : ¬ p ≠ sd.st.place) (h2 : (decide (b = sd.beat) && decide (tm.width ≤ sd.crowd)) = false) (h3 : (decide (tm.patience ≤ sd.pressed) && pressed rs sd b) = false)
    (h4 : (sd.owed.find? fun o => touches (m.row sd.st.place) o.spot) = none) : endCause m rs tm sd b p w = wroteCause (m.row sd.st.place) tm sd (wroteBy sd.st.spots sd.st.cells (m.row sd.st.place)) w := by
  unfold endCause
  rw [if_neg h, if_neg h1, if_neg (by simpa using h2), if_neg (by simpa using h3)]
  refine if_neg ?_
  rw [not_any h4]
  exact Bool.false_ne_true
theorem reads_len (r : Row) : (reads r).length ≤ 2 := by
  cases r <;> simp [reads] <;> split <;> simp
end
end TM
namespace TM
open PySem L2
theorem cut_drop1 (xs : List Dv) : cutD xs (some 1) none = xs.drop 1 := by
  cases xs with
  | nil => rfl
  | cons x xs => exact cut_drop (i := 1) (by simp)
theorem waits_mem {m : Mill} {rs : Rings} {took : List Int} {b k : Int} (hr : Rings.ok m rs) (h : k ∈ waits rs took b) : 0 ≤ k ∧ k < m.bells.length := by
  unfold waits at h
  have h2 := of_decide_eq_true (List.mem_filter.mp h).2
  have h3 : 0 < (rungBy rs b).count k := by omega
  have h4 := List.count_pos_iff.mp h3
  unfold rungBy at h4
  obtain ⟨r, hr1, rfl⟩ := List.mem_map.mp h4
  exact hr.k r (List.mem_filter.mp hr1).1
theorem ints_app (xs : List Int) (k : Int) : intsD xs ++ [Dv.int k] = intsD (xs ++ [k]) := by
  unfold intsD
  rw [List.map_append]
  rfl
end TM

/-! The text by places; what the top has written; own defs called. -/
namespace TM
open PySem PySem.Spec L2
def top (i : Nat) : Stmt := PySem.Challenge.pw_twomakes_k27_whole_any_diary.main.body.getD i (.Pass ⟨0, 0, 0, 0⟩)
/-- a def stands under its own name -/
structure FuD (K : PySem.W.Frag) (mg : Str → Option Value) (x : Str) (ps : List Str) (st : Stmt) : Prop where
  ex : ∃ f fd, Fun K x x st f fd ∧ mg x = some (.ref f) ∧ Binds K fd ps []
/-- .. and keeps its promise -/
structure Df (P : Program) (w : World) (K : PySem.W.Frag) (mg : Str → Option Value) (base : Heap) (x : Str) (n : Nat) (ps : List Str) (sp : Sp) : Prop where
  ex : ∃ f fd, FnOk P w K mg base CX0 n f fd ps sp ∧ mg x = some (.ref f) ∧ PySem.W.keepIn K (.ref f) = true ∧ Binds K fd ps []
/-- the built-in names that the text uses -/
structure Bl (mg : Str → Option Value) : Prop where
  len_ : mg "len" = none
  max_ : mg "max" = none
  sorted_ : mg "sorted" = none
  isinstance_ : mg "isinstance" = none
  set_ : mg "set" = none
  int_ : mg "int" = none
  tuple_ : mg "tuple" = none
  list_ : mg "list" = none
  str_ : mg "str" = none
  bool_ : mg "bool" = none
  range_ : mg "range" = none
structure Cs (mg : Str → Option Value) : Prop where
  CELLS : ∃ t, mg "CELLS" = some (.int 16 t)
  WORTHS : ∃ t, mg "WORTHS" = some (.int 4294967296 t)
section
variable {X : Cx}
theorem pe_df {x : Str} {n : Nat} {ps : List Str} {sp : Sp} {e : Expr} {es : List Expr} {t : TA} {p pos : Pos} (D : Df X.prog X.w X.K X.mg X.base x n ps sp) (hr : Room n X.A) (hg : Gl X x) (ha : PA X (e :: es) t) (hdb : (x == ("__debug__" : Str)) = false := by decide)
    (he : starEach (e :: es) X.env = (false, eval e X.env) :: starEach es X.env := by rfl) (hpl : (backTo pos (starEach es X.env)).any (·.1) = false := by rfl) :
    PE X (.Call (.Name x p) (e :: es) [] pos) (tCall sp [] E0 t) := by
  obtain ⟨f, fd, F, m, k, b⟩ := D.ex
  exact pe_call F hr hg m k b .nil pass0 ha hdb he hpl
theorem pe_const {x : Str} {n : Int} {pos : Pos} (h : ∃ t, X.mg x = some (.int n t)) (hg : Gl X x) (hd : (x == ("__debug__" : Str)) = false := by decide) : PE X (.Name x pos) (tC (.int n)) := by
  obtain ⟨t, h⟩ := h
  exact pe_glob hg h ⟨t, rfl⟩ (hd := hd)
end
section
variable {P : Program} {w : World} {K : PySem.W.Frag} {mg : Str → Option Value} {base : Heap}
theorem FuD.ok {x : Str} {ps N : List Str} {st : Stmt} {n : Nat} {S : DS} (F : FuD K mg x ps st) (Sc : FnScope N ps (defScope st)) (hl : ∀ G (J : JT G) es g Φ, S G J es g Φ → es.length = ps.length)
    (hb : ∀ (f : Addr) (cdv : Value) (A : Around) (outer : List PySem.Env) (s : Shared) (H : Hp) (E : XK), Room n (A.deeper (PyProof.Rows.envOfC x (defScope st) s.heap.objs.size f cdv)) →
      ∃ t, PSs (cxOf CX0 P w K mg base N x (defScope st) f cdv A outer s H E).nox (defBody st) t ∧ ∀ (G : Type) (J : JT G) es g Φ, S G J es g Φ →
        WS J (es.map some ++ List.replicate (N.length - ps.length) none) g t { nx := fun _ g' => Φ .non g', rt := Φ }) : Df P w K mg base x (n + 1) ps (spD S) := by
  obtain ⟨f, fd, F, m, b⟩ := F.ex
  exact ⟨f, fd, fn_D F Sc hl (hb f), m, F.kp, b⟩
end
end TM

/-! What each def of the program promises, over data. -/
namespace TM
open PySem L2
def S_spots_read : DS := fun G J es g Φ => ∃ r : Row, es = [rowD r] ∧ Φ (.lst ((reads r).map iD)) g
def S_spot_written : DS := fun G J es g Φ => ∃ r : Row, es = [rowD r] ∧ Φ (natO (writes r)) g
def S_is_slow : DS := fun G J es g Φ => ∃ r : Row, es = [rowD r] ∧ Φ (.bl (slow r)) g
def S_wrapped : DS := fun G J es g Φ => ∃ n : Int, es = [.int n] ∧ Φ (.int (n % 4294967296)) g
def S_rests : DS := fun G J es g Φ => ∃ (m : Mill) (s : Stt), es = [millD m, sttD s] ∧ Φ (.bl (decide (s.place = m.rows.length))) g
def S_cell_at : DS := fun G J es g Φ => ∃ (sp : List Int) (a : Nat) (n : Int), es = [.tup (intsD sp), iD a, .int n] ∧ a < sp.length ∧ Φ (iD (cellAt sp a n)) g
def S_put_at : DS := fun G J es g Φ => ∃ (xs : List Int) (i : Nat) (w : Int), es = [.tup (intsD xs), iD i, .int w] ∧ i < xs.length ∧ xs.length ≤ 1000 ∧ Φ (.tup (intsD (xs.set i w))) g
def S_worth_by : DS := fun G J es g Φ => ∃ (r : Row) (sp ce : List Int) (d : Nat) (w : Int), es = [rowD r, .tup (intsD sp), .tup (intsD ce)] ∧ r.ok ∧ sp.length = 8 ∧ ce.length = 16 ∧ (∀ v ∈ sp, 0 ≤ v ∧ v < 4294967296) ∧ wroteBy sp ce r = .spot d w ∧ Φ (.int w) g
def S_wrote_by : DS := fun G J es g Φ => ∃ (r : Row) (sp ce : List Int), es = [rowD r, .tup (intsD sp), .tup (intsD ce)] ∧ r.ok ∧ sp.length = 8 ∧ ce.length = 16 ∧ (∀ v ∈ sp, 0 ≤ v ∧ v < 4294967296) ∧ Φ (wrD (wroteBy sp ce r)) g
def S_place_behind : DS := fun G J es g Φ => ∃ (r : Row) (p : Int) (sp : List Int) (k : Option Int), es = [rowD r, .int p, .tup (intsD sp), optD k] ∧ r.ok ∧ sp.length = 8 ∧ Φ (.int (placeBehind p sp k r)) g
def S_step : DS := fun G J es g Φ => ∃ (m : Mill) (s : Stt), es = [millD m, sttD s] ∧ m.ok ∧ s.ok m ∧ s.place ≠ m.rows.length ∧ Φ (.tup [sttD (step m s).1, .tup [.int s.place, wrD (step m s).2]]) g
def S_ask_bell : DS := fun G J es g Φ => ∃ (m : Mill) (k : Int), es = [millD m, .int k] ∧ 0 ≤ k ∧ k < m.bells.length ∧ Φ .non g
def S_bell : DS := fun G J es g Φ => ∃ (m : Mill) (s : Stt) (k : Int), es = [millD m, sttD s, .int k] ∧ 0 ≤ k ∧ k < m.bells.length ∧ s.shut = false ∧ Φ (sttD (bellM m s k)) g
def S_first_stand : DS := fun G J es g Φ => ∃ s : Stt, es = [sttD s] ∧ Φ (sdD (firstStand s)) g
def S_waiting : DS := fun G J es g Φ => ∃ (m : Mill) (rs : Rings) (took : List Int) (beat : Int), es = [ringsD rs, .tupz (intsD took), .int beat] ∧ m.ok ∧ Rings.ok m rs ∧ Φ (.lst (intsD (waits rs took beat))) g
def S_is_pressed : DS := fun G J es g Φ => ∃ (m : Mill) (rs : Rings) (sd : Sd) (beat : Int), es = [ringsD rs, sdD sd, .int beat] ∧ m.ok ∧ Rings.ok m rs ∧ Φ (.bl (pressed rs sd beat)) g
def S_cause_of : DS := fun G J es g Φ => ∃ (m : Mill) (rs : Rings) (tm : Tm) (sd : Sd) (e : Ev), es = [millD m, ringsD rs, tmD tm, sdD sd, evD e] ∧ m.ok ∧ Rings.ok m rs ∧ sd.ok m ∧ Φ (causeD (causeOf m rs tm sd e)) g
def S_end_cause : DS := fun G J es g Φ => ∃ (m : Mill) (rs : Rings) (tm : Tm) (sd : Sd) (b p : Int) (w : Wro), es = [millD m, ringsD rs, tmD tm, sdD sd, evD (.fin b p w)] ∧ m.ok ∧ Rings.ok m rs ∧ sd.ok m ∧ Φ (causeD (endCause m rs tm sd b p w)) g
def S_wrote_cause : DS := fun G J es g Φ => ∃ (r : Row) (tm : Tm) (sd : Sd) (x : Wr) (w : Wro), es = [rowD r, wrD x, tmD tm, sdD sd, wroD w] ∧ Φ (causeD (wroteCause r tm sd x w)) g
def S_late_cause : DS := fun G J es g Φ => ∃ (sd : Sd) (b n w : Int), es = [sdD sd, evD (.late b n w)] ∧ Φ (causeD (lateCause sd n w)) g
def S_down_cause : DS := fun G J es g Φ => ∃ (sd : Sd) (b n i w : Int), es = [sdD sd, evD (.down b n i w)] ∧ Φ (causeD (downCause sd n i w)) g
def S_bell_cause : DS := fun G J es g Φ => ∃ (m : Mill) (rs : Rings) (sd : Sd) (b k : Int), es = [ringsD rs, sdD sd, evD (.bell b k)] ∧ m.ok ∧ Rings.ok m rs ∧ Φ (causeD (bellCause rs sd b k)) g
/-- the event fits how things stand, so that it may be taken up -/
def Fits (m : Mill) (rs : Rings) (sd : Sd) : Ev → Prop
  | .fin _ _ w => sd.st.place ≠ m.rows.length ∧ ((step m sd.st).2 = .no ↔ w = .no)
  | .bell b k => k ∈ waits rs sd.took b ∧ sd.st.shut = false
  | _ => True
def S_taken_up : DS := fun G J es g Φ => ∃ (m : Mill) (rs : Rings) (sd : Sd) (e : Ev), es = [millD m, ringsD rs, sdD sd, evD e] ∧ m.ok ∧ Rings.ok m rs ∧ sd.ok m ∧ Fits m rs sd e ∧ Φ (sdD (takenUp m rs sd e)) g
end TM

/-! What each def of the law promises, over data: the same mirror. -/
namespace TM
open PySem L2
/-- the law's own state beside the plain make -/
abbrev nowKs (sd : Sd) : List (Key × Dv) := [(Sum.inr "place", .int sd.st.place), (Sum.inr "spots", .lst (intsD sd.st.spots)), (Sum.inr "cells", .lst (intsD sd.st.cells)), (Sum.inr "shut", .bl sd.st.shut), (Sum.inr "kept", optD sd.st.kept), (Sum.inr "beat", .int sd.beat), (Sum.inr "crowd", .int sd.crowd), (Sum.inr "pressed", .int sd.pressed), (Sum.inr "owed", .lst (sd.owed.map owD)), (Sum.inr "laid", .lst (sd.laid.map laD)), (Sum.inr "took", .lst (intsD sd.took)), (Sum.inr "ends", .int sd.ends)]
abbrev nowD (sd : Sd) : Dv := .dic (nowKs sd)
theorem now_place (sd : Sd) : lookD (nowKs sd) (Sum.inr "place") = some (Dv.int sd.st.place) := by kernel_rfl
theorem now_spots (sd : Sd) : lookD (nowKs sd) (Sum.inr "spots") = some (Dv.lst (intsD sd.st.spots)) := by kernel_rfl
theorem now_cells (sd : Sd) : lookD (nowKs sd) (Sum.inr "cells") = some (Dv.lst (intsD sd.st.cells)) := by kernel_rfl
theorem now_shut (sd : Sd) : lookD (nowKs sd) (Sum.inr "shut") = some (Dv.bl sd.st.shut) := by kernel_rfl
theorem now_kept (sd : Sd) : lookD (nowKs sd) (Sum.inr "kept") = some (optD sd.st.kept) := by kernel_rfl
theorem now_beat (sd : Sd) : lookD (nowKs sd) (Sum.inr "beat") = some (Dv.int sd.beat) := by kernel_rfl
theorem now_crowd (sd : Sd) : lookD (nowKs sd) (Sum.inr "crowd") = some (Dv.int sd.crowd) := by kernel_rfl
theorem now_pressed (sd : Sd) : lookD (nowKs sd) (Sum.inr "pressed") = some (Dv.int sd.pressed) := by kernel_rfl
theorem now_owed (sd : Sd) : lookD (nowKs sd) (Sum.inr "owed") = some (Dv.lst (sd.owed.map owD)) := by kernel_rfl
theorem now_laid (sd : Sd) : lookD (nowKs sd) (Sum.inr "laid") = some (Dv.lst (sd.laid.map laD)) := by kernel_rfl
theorem now_took (sd : Sd) : lookD (nowKs sd) (Sum.inr "took") = some (Dv.lst (intsD sd.took)) := by kernel_rfl
theorem now_ends (sd : Sd) : lookD (nowKs sd) (Sum.inr "ends") = some (Dv.int sd.ends) := by kernel_rfl

def S__law_due : DS := fun G J es g Φ => ∃ (r : Row) (sd : Sd), es = [rowD r, nowD sd] ∧ r.ok ∧ sd.st.spots.length = 8 ∧ sd.st.cells.length = 16 ∧ (∀ v ∈ sd.st.spots, 0 ≤ v ∧ v < 4294967296) ∧ Φ (wrD (wroteBy sd.st.spots sd.st.cells r)) g
def S__law_waits : DS := fun G J es g Φ => ∃ (m : Mill) (rs : Rings) (sd : Sd) (b : Int), es = [ringsD rs, nowD sd, .int b] ∧ Rings.ok m rs ∧ sd.took.length ≤ 1000 ∧ Φ (.lst (intsD (waits rs sd.took b))) g
def S__law_end_cause : DS := fun G J es g Φ => ∃ (m : Mill) (rs : Rings) (tm : Tm) (sd : Sd) (b p : Int) (w : Wro), es = [millD m, ringsD rs, tmD tm, nowD sd, evD (.fin b p w)] ∧ m.ok ∧ Rings.ok m rs ∧ sd.ok m ∧ Φ (causeD (endCause m rs tm sd b p w)) g
def S__law_cause : DS := fun G J es g Φ => ∃ (m : Mill) (rs : Rings) (tm : Tm) (sd : Sd) (e : Ev), es = [millD m, ringsD rs, tmD tm, nowD sd, evD e] ∧ m.ok ∧ Rings.ok m rs ∧ sd.ok m ∧ Φ (causeD (causeOf m rs tm sd e)) g
/-- an event, or None; an end stands at a row, and writes something where the row does -/
def Good (m : Mill) (sd : Sd) : Ev → Prop
  | .fin _ _ w => sd.st.place ≠ m.rows.length ∧ ((step m sd.st).2 = .no ↔ w = .no)
  | _ => True
abbrev evO : Option Ev → Dv
  | none => .non
  | some e => evD e
def S__law_sure : DS := fun G J es g Φ => ∃ (m : Mill) (rs : Rings) (tm : Tm) (sd : Sd), es = [millD m, ringsD rs, tmD tm, nowD sd] ∧ m.ok ∧ Rings.ok m rs ∧ sd.ok m ∧ ∀ e : Option Ev, (∀ x, e = some x → Good m sd x) → Φ (evO e) g
def S__law_right : DS := fun G J es g Φ => ∃ (a b : Option (Int × Str)), es = [partD a, partD b] ∧ Φ (.bl (decide (a = b))) g
end TM

/-! A def's own list that grows; a class as a value; small lookups. -/
namespace TM
open PySem L2
section
variable {G : Type} {J : JT G} {ds : DE} {g : G} {Φ : Dv → G → Prop} {te : TE} {t : TS} {E : Es G} {K : PySem.W.Frag} {ta : TA}
theorem upd_self {H : Hp} {p : Addr} {o : HO} (h : H p = some o) : upd H p o = H := by
  funext a
  by_cases e : a = p
  · subst e
    rw [upd_same]
    exact h.symm
  · rw [upd_ne e]
/-! ### isinstance -/
theorem we_ty {n : String} (k : Φ (.raw (.ty n)) g) : WE J ds g (tC (.ty n)) Φ := fun F H σ o e Q q => q _ _ F H g k o Tr.refl (.raw _)
theorem rc_isi_t {xs : List Dv} {n : String} {b : Bool} (h : PySem.W.kitOne K (.type "tuple") (.type n) = some b) (k : Φ (.bl b) g) : RC J (rIsi K) [.tup xs, .raw (.ty n)] g Φ := fun F H vs o d1 Q q => by
  cases d1 with
  | cons d1 dn =>
    cases dn with
    | cons d2 dn =>
      cases dn
      cases d2
      cases d1 with
      | tup ha da =>
        refine ⟨_, _, _, _, b, rfl, .ty n, ?_, h, q _ _ F H g k o Tr.refl (.bl _)⟩
        rcases rd_same o.ex ha with ha | ⟨ob, ha⟩
        · exact .base (.tup ha)
        · exact .fTuple ha
theorem rc_isi_i {i : Int} {n : String} {b : Bool} (h : PySem.W.kitOne K (.type "int") (.type n) = some b) (k : Φ (.bl b) g) : RC J (rIsi K) [.int i, .raw (.ty n)] g Φ := fun F H vs o d1 Q q => by
  cases d1 with
  | cons d1 dn =>
    cases dn with
    | cons d2 dn =>
      cases dn
      cases d2
      cases d1
      exact ⟨_, _, _, _, b, rfl, .ty n, .base (.int _), h, q _ _ F H g k o Tr.refl (.bl _)⟩
theorem rc_isi_s {i : Str} {n : String} {b : Bool} (h : PySem.W.kitOne K (.type "str") (.type n) = some b) (k : Φ (.bl b) g) : RC J (rIsi K) [.str i, .raw (.ty n)] g Φ := fun F H vs o d1 Q q => by
  cases d1 with
  | cons d1 dn =>
    cases dn with
    | cons d2 dn =>
      cases dn
      cases d2
      cases d1
      exact ⟨_, _, _, _, b, rfl, .ty n, .base (.str _), h, q _ _ F H g k o Tr.refl (.bl _)⟩
theorem rc_isi_n {n : String} {b : Bool} (h : PySem.W.kitOne K (.type "NoneType") (.type n) = some b) (k : Φ (.bl b) g) : RC J (rIsi K) [.non, .raw (.ty n)] g Φ := fun F H vs o d1 Q q => by
  cases d1 with
  | cons d1 dn =>
    cases dn with
    | cons d2 dn =>
      cases dn
      cases d2
      cases d1
      exact ⟨_, _, _, _, b, rfl, .ty n, .base .non, h, q _ _ F H g k o Tr.refl (.bl _)⟩
theorem in_t {b : Bool} {P : Bool → Prop} (c : Bool) (e : b = c) (h : P c) : P b := e ▸ h
theorem mod_id {x : Int} (h : 0 ≤ x ∧ x < 4294967296) : x % 4294967296 = x := Int.emod_eq_of_lt h.1 h.2
theorem lk1 (a b c : Dv) : lookD [(Sum.inr "sum", a), (Sum.inr "mul", b), (Sum.inr "less", c)] (Sum.inr "sum") = some a := by kernel_rfl
theorem lk2 (a b c : Dv) : lookD [(Sum.inr "sum", a), (Sum.inr "mul", b), (Sum.inr "less", c)] (Sum.inr "mul") = some b := by kernel_rfl
theorem lk3 (a b c : Dv) : lookD [(Sum.inr "sum", a), (Sum.inr "mul", b), (Sum.inr "less", c)] (Sum.inr "less") = some c := by kernel_rfl
/-! ### the grown list -/
def JT.withL (J : JT G) (p : Addr) : JT (G × List Dv) where
  M := p :: J.M
  C F H gx := J.C F H gx.1 ∧ ∃ vs, H p = some (.lst vs) ∧ DtAll F vs gx.2
  mono := fun h s1 s2 hm => by
    obtain ⟨h1, vs, h2, h3⟩ := h
    exact ⟨J.mono h1 s1 s2 fun m hm' => hm m (.tail _ hm'), vs, by rw [hm _ (.head _)]; exact h2, h3.mono s1⟩
theorem JT.Ok.dropL {p : Addr} {F H : Hp} {gx : G × List Dv} (o : (J.withL p).Ok F H gx) : J.Ok F H gx.1 := ⟨o.ex, fun m hm => o.mu m (.tail _ hm), o.c.1⟩
/-- the list frozen: what was told of it as a place is told of it as data -/
def Fz (p : Addr) (xs : List Dv) (d d' : Dv) : Prop := ∀ (F : Hp) (vs : List V) (v : V), F p = some (.lst vs) → DtAll F vs xs → Dt F v d → Dt F v d'
theorem fz_id {p : Addr} {xs : List Dv} {d : Dv} : Fz p xs d d := fun F vs v _ _ h => h
theorem fz_p {p : Addr} {xs : List Dv} : Fz p xs (.raw (.ref p)) (.lst xs) := fun F vs v h1 h2 h => by
  cases h
  exact .lst h1 h2
theorem fz_two {p : Addr} {xs : List Dv} {d : Dv} : Fz p xs (.tup [.raw (.ref p), d]) (.tup [.lst xs, d]) := fun F vs v h1 h2 h => by
  cases h with
  | tup ha da =>
    cases da with
    | cons d1 da =>
      cases d1
      exact .tup ha (.cons (.lst h1 h2) da)
def Es.withL (E : Es G) (p : Addr) : Es (G × List Dv) where
  nx := fun ds gx => E.nx ds gx.1
  rt := fun d gx => ∃ d', Fz p gx.2 d d' ∧ E.rt d' gx.1
  bk := fun ds gx => E.bk ds gx.1
  ct := fun ds gx => E.ct ds gx.1
theorem ws_newL {i : Nat} {f : Dv → DE} [c : SetF ds i f] (h : WA J ds g ta fun es g' => es.length ≤ 100000 ∧ ∀ p, p ∉ J.M → WS (J.withL p) (f (.raw (.ref p))) (g', es) t (E.withL p)) : WS J ds g (tSeq (tAsg (tLst ta) (gName i)) t) E := fun F H σ o e D n r b ct =>
  h F H σ o e _ fun vs es F1 H1 g1 h1 o1 t1 d1 => by
    obtain ⟨hl, hw⟩ := h1
    refine ⟨sz1000 (by rw [d1.length]; exact hl), fun p hp => ?_⟩
    have np := o1.nomem hp
    have fp := o1.fnone hp
    have oL : (J.withL p).Ok F1 (upd H1 p (.lst vs)) (g1, es) := by
      have q := o1.put0 (o := .lst vs) fp np
      refine ⟨q.ex, fun m hm => ?_, q.c, vs, upd_same, d1⟩
      cases hm with
      | head => exact ⟨fp, by rw [upd_same]; exact fun z => nomatch z⟩
      | tail _ hm => exact q.mu m hm
    have fin : ∀ {F' H' : Hp} {gx : G × List Dv}, (J.withL p).Ok F' H' gx → Tr (J.withL p) F1 (upd H1 p (.lst vs)) F' H' → ∃ ws, J.Ok (upd F' p (.lst ws)) H' gx.1 ∧ Tr J F H (upd F' p (.lst ws)) H' ∧ DtAll F' ws gx.2 ∧ Same F' (upd F' p (.lst ws)) := fun {F' H' gx} o' t' => by
      obtain ⟨_, ws, hp', da⟩ := o'.c
      have fp' : F' p = none := (o'.mu p (.head _)).1
      have k := o'.dropL.put (p := p) (o := .lst ws) fp' np
      rw [upd_self hp'] at k
      refine ⟨ws, k, t1.trans ⟨fun a u ha => ?_, fun a u ha m => ?_, fun a ha z => ?_, fun a ha => ?_⟩, da, fun a u ha => by rw [upd_ne (ne_of_none ha fp')]; exact ha⟩
      · rw [upd_ne (ne_of_none ha fp)]
        exact t'.f a u ha
      · have ne := ne_of_none ha hp
        refine t'.h a u (by rw [upd_ne ne]; exact ha) fun hm => ?_
        cases hm with
        | head => exact ne rfl
        | tail _ hm => exact m hm
      · have ne : a ≠ p := fun z => ha (by rw [z]; exact hp)
        rw [upd_ne ne]
        exact t'.n a (by rw [upd_ne ne]; exact ha) z
      · have ne : a ≠ p := fun z => ha (by rw [z]; exact hp)
        exact t'.k a (by rw [upd_ne ne]; exact ha)
    have eσ : Env F1 (σ.set i (some (.ref p))) (f (.raw (.ref p))) := by
      rw [← c.h]
      exact (e.mono t1.f).set (.raw _) i
    refine hw p np F1 _ _ oL eσ D (fun σ' ds' F' H' gx h' o' t' e' => ?_) (fun v d F' H' gx h' o' t' d' => ?_) (fun σ' ds' F' H' gx h' o' t' e' => ?_) (fun σ' ds' F' H' gx h' o' t' e' => ?_)
    · obtain ⟨ws, k1, k2, k3, k4⟩ := fin o' t'
      exact n σ' ds' _ H' gx.1 h' k1 k2 (e'.mono k4)
    · obtain ⟨ws, k1, k2, k3, k4⟩ := fin o' t'
      obtain ⟨d2, hz, h2⟩ := h'
      exact r v d2 _ H' gx.1 h2 k1 k2 (hz _ ws v upd_same (k3.mono k4) (d'.mono k4))
    · obtain ⟨ws, k1, k2, k3, k4⟩ := fin o' t'
      exact b σ' ds' _ H' gx.1 h' k1 k2 (e'.mono k4)
    · obtain ⟨ws, k1, k2, k3, k4⟩ := fin o' t'
      exact ct σ' ds' _ H' gx.1 h' k1 k2 (e'.mono k4)
theorem JT.Ok.setL {p : Addr} {F H : Hp} {gx : G × List Dv} {ws : List V} {ys : List Dv} (o : (J.withL p).Ok F H gx) (np : p ∉ J.M) (h : DtAll F ws ys) : (J.withL p).Ok F (upd H p (.lst ws)) (gx.1, ys) := by
  have fp : F p = none := (o.mu p (.head _)).1
  have k := o.dropL.put0 (p := p) (o := .lst ws) fp np
  refine ⟨k.ex, fun m hm => ?_, k.c, ws, upd_same, h⟩
  cases hm with
  | head => exact ⟨fp, by rw [upd_same]; exact fun z => nomatch z⟩
  | tail _ hm => exact k.mu m hm
theorem Tr.setL {p : Addr} {F H : Hp} {ws : List V} : Tr (J.withL p) F H F (upd H p (.lst ws)) := by
  refine ⟨Same.refl _, fun a u ha m => ?_, fun _ _ z => z, fun a ha => ?_⟩
  · have ne : a ≠ p := fun z => m (by rw [z]; exact .head _)
    rw [upd_ne ne]
    exact ha
  · by_cases e : a = p
    · subst e
      rw [upd_same]
      exact fun z => nomatch z
    · rw [upd_ne e]
      exact ha
variable {p : Addr} {gx : G × List Dv} {Ψ : Dv → G × List Dv → Prop}
theorem we_appendL (np : p ∉ J.M) (h : WE (J.withL p) ds gx te fun d g1 => d = .raw (.ref p) ∧ WA (J.withL p) ds g1 ta fun es g2 => ∃ y, es = [y] ∧ g2.2.length ≤ 50000 ∧ Ψ .non (g2.1, g2.2 ++ [y])) :
    WE (J.withL p) ds gx (tBM K "list" rAppend te ta) Ψ := fun F H σ o e Q q =>
  h F H σ o e _ fun v d F1 H1 g1 h1 o1 t1 d1 => by
    obtain ⟨rfl, h1⟩ := h1
    cases d1
    obtain ⟨_, ws, hp, _⟩ := o1.c
    refine ⟨.inl ⟨rfl, ws, .inl (.inl hp)⟩, h1 F1 H1 σ o1 (e.mono t1.f) _ fun vs es F2 H2 g2 h2 o2 t2 d2 => ?_⟩
    obtain ⟨y, rfl, hl, k⟩ := h2
    cases d2 with
    | cons d2 dn =>
      cases dn
      obtain ⟨_, ws2, hp2, da⟩ := o2.c
      exact ⟨p, ws2, _, rfl, rfl, hp2, sz1001 (by rw [da.length]; omega), q _ _ F2 _ _ k (o2.setL np (da.append (.cons d2 .nil))) ((t1.trans t2).trans Tr.setL) .non⟩
theorem rc_len_c {p : Addr} (k : Ψ (.int (gx.2.length : Int)) gx) : RC (J.withL p) (rLenU K) [.raw (.ref p)] gx Ψ := fun F H vs o d1 Q q => by
  cases d1 with
  | cons d1 dn =>
    cases dn
    cases d1
    obtain ⟨_, ws, hp, da⟩ := o.c
    exact ⟨_, _, rfl, .inl (.inl (.inl hp)), by rw [da.length]; exact q _ _ F H gx k o Tr.refl (.int _)⟩
theorem rc_tup_c {p : Addr} (k : Ψ (.tup gx.2) gx) : RC (J.withL p) (rTupU K) [.raw (.ref p)] gx Ψ := fun F H vs o d1 Q q => by
  cases d1 with
  | cons d1 dn =>
    cases dn
    cases d1
    obtain ⟨_, ws, hp, da⟩ := o.c
    exact ⟨_, _, rfl, .inl ⟨.inl (.inl hp), fin_new q k o Tr.refl fun p F2 s e => .tup (.inl e) (da.mono s)⟩⟩
theorem ro_add_c {ys : List Dv} (hz : gx.2.length + ys.length ≤ 100000) (k : Ψ (.lst (gx.2 ++ ys)) gx) : RO (J.withL p) (rAddU K) (.raw (.ref p)) (.lst ys) gx Ψ := fun F H v w o d1 d2 Q q => by
  cases d1
  obtain ⟨_, ws, hp, da⟩ := o.c
  cases d2 with
  | lst hb db =>
    refine .inr (.inl ⟨_, _, _, _, rfl, rfl, hp, o.ex _ _ hb, sz1000 (by rw [da.length, db.length]; exact hz), ?_⟩)
    exact fin_new q k o Tr.refl fun p F2 s e => .lst e ((da.append db).mono s)
theorem ixN_nat {n i : Nat} (h : i < n) : ixN n (i : Int) = some i := by
  unfold ixN
  rw [if_pos (by omega), if_pos (by omega)]
  simp
/-- l[i] = x -/
theorem ws_setL {to ti : TE} {E : Es (G × List Dv)} (np : p ∉ J.M) (h : WE (J.withL p) ds gx te fun x g1 => WE (J.withL p) ds g1 to fun d g2 => d = .raw (.ref p) ∧ WE (J.withL p) ds g2 ti fun y g3 => ∃ i : Nat, y = .int (i : Int) ∧ i < g3.2.length ∧ E.nx ds (g3.1, g3.2.set i x)) :
    WS (J.withL p) ds gx (tAsg te (gSub to ti L2.rSetL)) E := fun F H σ o e D n r b c =>
  h F H σ o e _ fun v x F1 H1 g1 h1 o1 t1 d1 => h1 F1 H1 σ o1 (e.mono t1.f) _ fun u d F2 H2 g2 h2 o2 t2 d2 => by
    obtain ⟨rfl, h2⟩ := h2
    cases d2
    refine h2 F2 H2 σ o2 (e.mono (t1.trans t2).f) _ fun iv y F3 H3 g3 h3 o3 t3 d3 => ?_
    obtain ⟨i, rfl, hi, k⟩ := h3
    cases d3
    obtain ⟨_, ws, hp, da⟩ := o3.c
    refine ⟨p, ws, _, i, rfl, rfl, hp, ?_, ?_⟩
    · exact ixN_nat (by rw [da.length]; exact hi)
    · exact n σ ds F3 _ _ k (o3.setL np (da.set (d1.mono (t2.trans t3).f) i)) (((t1.trans t2).trans t3).trans Tr.setL) (e.mono ((t1.trans t2).trans t3).f)
end
end TM

/-! Plain facts that the law's side asks. -/
namespace TM
open PySem L2
theorem dsk (a b c : Dv) : (keysOf [(Sum.inr "sum", a), (Sum.inr "mul", b), (Sum.inr "less", c)]).Nodup := by
  show List.Nodup ([Sum.inr "sum", Sum.inr "mul", Sum.inr "less"] : List Key)
  decide +kernel
abbrev cutKs : List (Key × Dv) := [(Sum.inr "put", .int 2), (Sum.inr "go", .int 2), (Sum.inr "take", .int 3), (Sum.inr "lay", .int 3)]
theorem ctk : (keysOf cutKs).Nodup := by
  show List.Nodup ([Sum.inr "put", Sum.inr "go", Sum.inr "take", Sum.inr "lay"] : List Key)
  decide +kernel
def rname : Row → Str
  | .put _ _ => "put" | .sum _ _ _ => "sum" | .mul _ _ _ => "mul" | .less _ _ _ => "less" | .take _ _ _ => "take" | .lay _ _ _ => "lay" | .go _ _ => "go" | .shut => "shut" | .opn => "open" | .home => "home"
def rargs : Row → List Dv
  | .put d n => [iD d, .int n]
  | .sum d a b => [iD d, iD a, iD b]
  | .mul d a b => [iD d, iD a, iD b]
  | .less d a b => [iD d, iD a, iD b]
  | .take d a n => [iD d, iD a, .int n]
  | .lay b a n => [iD b, iD a, .int n]
  | .go a p => [iD a, .int p]
  | _ => []
theorem rowD_eq (r : Row) : rowD r = .tup (.str (rname r) :: rargs r) := by cases r <;> rfl
def cutN : Row → Int
  | .put _ _ => 2 | .go _ _ => 2 | .take _ _ _ => 3 | .lay _ _ _ => 3 | _ => 4
theorem cut_row (r : Row) : (lookD cutKs (Sum.inr (rname r))).getD (.int 4) = .int (cutN r) := by cases r <;> kernel_rfl
def touchL : Row → List Dv
  | .put d n => [iD d]
  | .sum d a b => [iD d, iD a, iD b]
  | .mul d a b => [iD d, iD a, iD b]
  | .less d a b => [iD d, iD a, iD b]
  | .take d a n => [iD d, iD a]
  | .lay b a n => [iD b, iD a]
  | .go a p => [iD a]
  | _ => []
theorem cut_touch (r : Row) : cutD (.str (rname r) :: rargs r) (some 1) (some (cutN r)) = touchL r := by cases r <;> rfl
theorem flat_touch (r : Row) : (touchL r).all flatD = true := by cases r <;> rfl
theorem inD_touchL (r : Row) (x : Int) : inD (.int x) (touchL r) = touches r x := by
  cases r
  case sum d a b => by_cases e : a = b <;> simp [inD, inV, touchL, touches, reads, writes, flatOf, eqV, Bool.beq_eq_decide_eq, e, Bool.or_comm, Bool.or_left_comm]
  case mul d a b => by_cases e : a = b <;> simp [inD, inV, touchL, touches, reads, writes, flatOf, eqV, Bool.beq_eq_decide_eq, e, Bool.or_comm, Bool.or_left_comm]
  case less d a b => by_cases e : a = b <;> simp [inD, inV, touchL, touches, reads, writes, flatOf, eqV, Bool.beq_eq_decide_eq, e, Bool.or_comm, Bool.or_left_comm]
  case lay b a n => by_cases e : b = a <;> simp [inD, inV, touchL, touches, reads, writes, flatOf, eqV, Bool.beq_eq_decide_eq, e, Bool.or_comm, Bool.or_left_comm]
  all_goals simp [inD, inV, touchL, touches, reads, writes, flatOf, eqV, Bool.beq_eq_decide_eq, Bool.or_comm]
theorem slow_in (r : Row) : inD (.str (rname r)) [.str "mul", .str "take"] = slow r := by cases r <;> kernel_rfl
theorem cell_not_slow {sp ce : List Int} {r : Row} {i : Nat} {x : Int} (h : wroteBy sp ce r = .cell i x) : slow r = false := by
  cases r <;> first | rfl | (simp [wroteBy] at h)
theorem fil_empty {α β : Type} (l : List α) (p : α → Bool) (f : α → β) : ((l.filter p).map f).isEmpty = !l.any p := by
  induction l with
  | nil => rfl
  | cons x l ih =>
    rw [List.filter_cons]
    cases h : p x <;> simp [h]
    simpa using ih
theorem cnt_took (xs : List Int) (k : Int) {α : Type} (f : Int → α) : ((xs.filter fun r => decide (r = k)).map f).length = xs.count k := by
  rw [List.length_map, List.count_eq_countP, List.countP_eq_length_filter]
  rfl
theorem cnt_rung (rs : Rings) (k beat : Int) {α : Type} (f : Int × Int → α) : ((rs.filter fun r => decide (r.2 = k) && decide (r.1 ≤ beat)).map f).length = (rungBy rs beat).count k := by
  rw [List.length_map]
  unfold rungBy
  induction rs with
  | nil => rfl
  | cons r rs ih =>
    by_cases h1 : r.1 ≤ beat <;> by_cases h2 : r.2 = k <;> simp [h1, h2, List.count_cons] at ih ⊢ <;> exact ih
theorem filter_take_succ {α : Type} {l : List α} {p : α → Bool} {i : Nat} {k : α} (h : l[i]? = some k) : (l.take (i + 1)).filter p = (l.take i).filter p ++ if p k = true then [k] else [] := by
  rw [List.take_add_one, h, List.filter_append]
  cases hp : p k <;> simp [hp]
theorem find_filter {α : Type} (l : List α) (p : α → Bool) : l.find? p = (l.filter p).head? := by
  induction l with
  | nil => rfl
  | cons x l ih =>
    rw [List.find?_cons, List.filter_cons]
    cases h : p x
    · simpa [h] using ih
    · simp [h]
abbrev pairD (o : Ow) : Dv := .tup [.int o.n, .int o.worth]
abbrev oneD (x : Int) : Dv := .tup [.int x]
theorem ok_pairs (l : List Ow) : (l.map pairD).all (okPy 1) = true := by
  rw [List.all_map, List.all_eq_true]
  intro x _
  rfl
theorem ok_ones (l : List Int) : (l.map oneD).all (okPy 1) = true := by
  rw [List.all_map, List.all_eq_true]
  intro x _
  rfl
theorem waits_len (rs : Rings) (took : List Int) (b : Int) : (waits rs took b).length ≤ 4 := List.length_filter_le _ [0, 1, 2, 3]
def toWro : Wr → Wro
  | .no => .no
  | .spot d w => .spot d (some w)
  | .cell i w => .cell i (some w)
theorem wroD_to (x : Wr) : wroD (toWro x) = wrD x := by cases x <;> rfl
theorem toWro_no (x : Wr) : toWro x = .no ↔ x = .no := by cases x <;> simp [toWro]
section
variable {G : Type} {J : JT G} {ds : DE} {g : G} {Φ : Dv → G → Prop} {te : TE} {Ψ : Bool → G → Prop} {tt : TT}
theorem we_known (d0 : Dv) (h : WE J ds g te fun d g' => d = d0 ∧ g' = g) (k : Φ d0 g) : WE J ds g te Φ := h.imp fun d g' z => by
  obtain ⟨rfl, rfl⟩ := z
  exact k
theorem wt_known (b0 : Bool) (h : WT J ds g tt fun d g' => d = b0 ∧ g' = g) (k : Ψ b0 g) : WT J ds g tt Ψ := fun F H σ o e Q q => h F H σ o e Q fun b F' H' g' z => by
  obtain ⟨rfl, rfl⟩ := z
  exact q b F' H' g' k
end
end TM

/-! The bag that draws: its list and its great numbers change, all else stands. -/
namespace TM
open PySem L2
structure BagJ {G : Type} (J : JT G) (b gr : Addr) (fold : Int) (cnt : G → Nat) (bump : G → Nat → G) : Prop where
  mb : b ∈ J.M
  mg : gr ∈ J.M
  ne : gr ≠ b
  f0 : 0 ≤ fold
  f1 : fold < 2147483629
  rd : ∀ {F H : Hp} {g : G}, J.Ok F H g → H b = some (.lst [.ref gr, .int fold, .int (cnt g : Int)]) ∧ ∃ great : List Int, H gr = some (.lst (great.map V.int)) ∧ ∀ x ∈ great, 0 ≤ x
  wr : ∀ {F H : Hp} {g : G} {great : List Int} {n : Nat}, J.Ok F H g → (∀ x ∈ great, 0 ≤ x) → J.Ok F (upd (upd H b (.lst [.ref gr, .int fold, .int (n : Int)])) gr (.lst (great.map V.int))) (bump g n)
  c1 : ∀ g n, cnt (bump g n) = n
  c2 : ∀ g a n, bump (bump g a) n = bump g n
  c3 : ∀ g, bump g (cnt g) = g
/-- the bag alone -/
def bagT (b gr : Addr) (fold : Int) : JT Nat where
  M := [b, gr]
  C F H n := H b = some (.lst [.ref gr, .int fold, .int (n : Int)]) ∧ ∃ great : List Int, H gr = some (.lst (great.map V.int)) ∧ ∀ x ∈ great, 0 ≤ x
  mono := fun h _ _ hm => by
    obtain ⟨h1, gt, h2, h3⟩ := h
    exact ⟨by rw [hm _ (by simp)]; exact h1, gt, by rw [hm _ (by simp)]; exact h2, h3⟩
theorem bagT_bag {b gr : Addr} {fold : Int} (ne : gr ≠ b) (f0 : 0 ≤ fold) (f1 : fold < 2147483629) : BagJ (bagT b gr fold) b gr fold (fun n => n) (fun _ n => n) where
  mb := by simp [bagT]
  mg := by simp [bagT]
  ne := ne
  f0 := f0
  f1 := f1
  rd := fun o => o.c
  wr := fun {F H g great n} o hg => by
    have hb : F b = none := (o.mu b (by simp [bagT])).1
    have hgr : F gr = none := (o.mu gr (by simp [bagT])).1
    refine ⟨fun a u ha => ?_, fun m hm => ?_, ?_, great, upd_same, hg⟩
    · rw [upd_ne (ne_of_none ha hgr), upd_ne (ne_of_none ha hb)]
      exact o.ex _ _ ha
    · have : m = b ∨ m = gr := by simpa [bagT] using hm
      rcases this with rfl | rfl
      · refine ⟨hb, ?_⟩
        rw [upd_ne ne.symm, upd_same]
        exact fun z => nomatch z
      · refine ⟨hgr, ?_⟩
        rw [upd_same]
        exact fun z => nomatch z
    · rw [upd_ne ne.symm, upd_same]
  c1 := fun _ _ => rfl
  c2 := fun _ _ _ => rfl
  c3 := fun _ => rfl
section
variable {G : Type} {J : JT G} {b gr : Addr} {fold : Int} {cnt : G → Nat} {bump : G → Nat → G} {ds : DE} {K : PySem.W.Frag}
theorem BagJ.withL (B : BagJ J b gr fold cnt bump) {p : Addr} (np : p ∉ J.M) : BagJ (J.withL p) b gr fold (fun gx => cnt gx.1) (fun gx n => (bump gx.1 n, gx.2)) where
  mb := .tail _ B.mb
  mg := .tail _ B.mg
  ne := B.ne
  f0 := B.f0
  f1 := B.f1
  rd := fun o => B.rd o.dropL
  wr := fun {F H gx great n} o hg => by
    have q := B.wr (n := n) o.dropL hg
    have n1 : p ≠ b := fun z => np (by rw [z]; exact B.mb)
    have n2 : p ≠ gr := fun z => np (by rw [z]; exact B.mg)
    obtain ⟨_, ws, hp, da⟩ := o.c
    refine ⟨q.ex, fun m hm => ?_, q.c, ws, by rw [upd_ne n2, upd_ne n1]; exact hp, da⟩
    cases hm with
    | head => exact ⟨(o.mu _ (.head _)).1, by rw [upd_ne n2, upd_ne n1, hp]; exact fun z => nomatch z⟩
    | tail _ hm => exact q.mu m hm
  c1 := fun g n => B.c1 g.1 n
  c2 := fun g a n => by rw [B.c2]
  c3 := fun g => by rw [B.c3]
/-! ### inside a draw -/
def JT.withG (J : JT G) (gr : Addr) (hg : gr ∈ J.M) : JT (G × List Int) where
  M := J.M
  C F H gx := J.C F H gx.1 ∧ H gr = some (.lst (gx.2.map V.int)) ∧ ∀ x ∈ gx.2, 0 ≤ x
  mono := fun h s1 s2 hm => ⟨J.mono h.1 s1 s2 hm, by rw [hm _ hg]; exact h.2.1, h.2.2⟩
theorem JT.Ok.dropG {hg : gr ∈ J.M} {F H : Hp} {gx : G × List Int} (o : (J.withG gr hg).Ok F H gx) : J.Ok F H gx.1 := ⟨o.ex, o.mu, o.c.1⟩
theorem Tr.dropG {hg : gr ∈ J.M} {F H F' H' : Hp} (t : Tr (J.withG gr hg) F H F' H') : Tr J F H F' H' := ⟨t.f, t.h, t.n, t.k⟩
theorem ws_openG (B : BagJ J b gr fold cnt bump) {g : G} {t : TS} {E : Es G} (h : ∀ great : List Int, (∀ x ∈ great, 0 ≤ x) → WS (J.withG gr B.mg) ds (g, great) t ⟨fun ds gx => E.nx ds gx.1, fun d gx => E.rt d gx.1, fun ds gx => E.bk ds gx.1, fun ds gx => E.ct ds gx.1⟩) : WS J ds g t E := fun F H σ o e D n r bk ct => by
  obtain ⟨_, great, h1, h2⟩ := B.rd o
  exact h great h2 F H σ ⟨o.ex, o.mu, o.c, h1, h2⟩ e D (fun σ' ds' F' H' gx h' o' t' => n σ' ds' F' H' gx.1 h' o'.dropG t'.dropG) (fun v d F' H' gx h' o' t' => r v d F' H' gx.1 h' o'.dropG t'.dropG)
    (fun σ' ds' F' H' gx h' o' t' => bk σ' ds' F' H' gx.1 h' o'.dropG t'.dropG) (fun σ' ds' F' H' gx h' o' t' => ct σ' ds' F' H' gx.1 h' o'.dropG t'.dropG)
variable {gx : G × List Int} {Φ : Dv → G × List Int → Prop} {E : Es (G × List Int)} {te to ti : TE} {ta : TA}
theorem JT.Ok.setG (B : BagJ J b gr fold cnt bump) {F H : Hp} {n : Nat} {l : List Int} (o : (J.withG gr B.mg).Ok F H gx) (hl : ∀ x ∈ l, 0 ≤ x) : (J.withG gr B.mg).Ok F (upd (upd H b (.lst [.ref gr, .int fold, .int (n : Int)])) gr (.lst (l.map V.int))) (bump gx.1 n, l) := by
  have q := B.wr (n := n) o.dropG hl
  exact ⟨q.ex, q.mu, q.c, upd_same, hl⟩
theorem tr_upd {F H : Hp} {p : Addr} {o : HO} (m : p ∈ J.M) : Tr J F H F (upd H p o) := by
  refine ⟨Same.refl _, fun a u ha n => ?_, fun _ _ z => z, fun a ha => ?_⟩
  · have ne : a ≠ p := fun z => n (by rw [z]; exact m)
    rw [upd_ne ne]
    exact ha
  · by_cases e : a = p
    · subst e
      rw [upd_same]
      exact fun z => nomatch z
    · rw [upd_ne e]
      exact ha
/-- great = l -/
theorem JT.Ok.setG1 (B : BagJ J b gr fold cnt bump) {F H : Hp} {l : List Int} (o : (J.withG gr B.mg).Ok F H gx) (hl : ∀ x ∈ l, 0 ≤ x) : (J.withG gr B.mg).Ok F (upd H gr (.lst (l.map V.int))) (gx.1, l) := by
  have q := o.setG B (n := cnt gx.1) hl
  rw [upd_self (B.rd o.dropG).1, B.c3] at q
  exact q
/-- bag[2] = n -/
theorem JT.Ok.setG2 (B : BagJ J b gr fold cnt bump) {F H : Hp} {n : Nat} (o : (J.withG gr B.mg).Ok F H gx) : (J.withG gr B.mg).Ok F (upd H b (.lst [.ref gr, .int fold, .int (n : Int)])) (bump gx.1 n, gx.2) := by
  have q := o.setG B (n := n) o.c.2.2
  rw [upd_self (by rw [upd_ne B.ne]; exact o.c.2.1)] at q
  exact q
theorem ro_bag (B : BagJ J b gr fold cnt bump) {i : Int} (hk : ∃ v d, L2.atI [V.ref gr, V.int fold, V.int (cnt gx.1 : Int)] i = some v ∧ (∀ F, Dt F v d) ∧ Φ d gx) : RO (J.withG gr B.mg) (rIxU K) (.raw (.ref b)) (.int i) gx Φ := fun F H v w o d1 d2 Q q => by
  obtain ⟨u, d, h1, h2, k⟩ := hk
  cases d1
  cases d2
  exact .inl ⟨_, _, _, u, rfl, rfl, .inl (.inl (B.rd o.dropG).1), h1, q _ _ F H gx k o Tr.refl (h2 F)⟩
theorem ws_bag2 (B : BagJ J b gr fold cnt bump) (h : WE (J.withG gr B.mg) ds gx te fun x g1 => WE (J.withG gr B.mg) ds g1 to fun d g2 => d = .raw (.ref b) ∧ WE (J.withG gr B.mg) ds g2 ti fun y g3 => ∃ n : Nat, y = .int 2 ∧ x = .int (n : Int) ∧ E.nx ds (bump g3.1 n, g3.2)) :
    WS (J.withG gr B.mg) ds gx (tAsg te (gSub to ti L2.rSetL)) E := fun F H σ o e D n r bk c =>
  h F H σ o e _ fun v x F1 H1 g1 h1 o1 t1 d1 => h1 F1 H1 σ o1 (e.mono t1.f) _ fun u d F2 H2 g2 h2 o2 t2 d2 => by
    obtain ⟨rfl, h2⟩ := h2
    cases d2
    refine h2 F2 H2 σ o2 (e.mono (t1.trans t2).f) _ fun iv y F3 H3 g3 h3 o3 t3 d3 => ?_
    obtain ⟨m, rfl, rfl, k⟩ := h3
    cases d3
    cases d1
    exact ⟨b, _, _, 2, rfl, rfl, (B.rd o3.dropG).1, rfl, n σ ds F3 _ _ k (o3.setG2 B) (((t1.trans t2).trans t3).trans (tr_upd B.mb)) (e.mono ((t1.trans t2).trans t3).f)⟩
theorem ro_ne_g (B : BagJ J b gr fold cnt bump) (k : Φ (.bl (!gx.2.isEmpty)) gx) : RO (J.withG gr B.mg) (rNeU K) (.raw (.ref gr)) (.lst []) gx Φ := fun F H v w o d1 d2 Q q => by
  cases d1
  have a1 : Dt H (V.ref gr) (.lst (intsD gx.2)) := .lst o.c.2.1 (DtAll.ints _)
  have e : PyData.eqv (toPy 1 (.lst (intsD gx.2))) (toPy 1 (.lst [])) = gx.2.isEmpty := by
    rw [eqv_nilL]
    cases gx.2 <;> rfl
  refine .inr ⟨_, _, dt_dp (Same.refl H) 1 _ _ a1 (by simpa [okPy] using ok_ints 0 gx.2), dt_dp o.ex 1 w _ d2 rfl, shaped_py (n := 1) (by decide) (by simpa [okPy] using ok_ints 0 gx.2), shaped_py (n := 1) (by decide) rfl, ?_⟩
  rw [e]
  exact q _ _ F H gx k o Tr.refl (.bl _)
theorem ro_ix_g (B : BagJ J b gr fold cnt bump) {x : Int} {xs : List Int} {g : G} (k : Φ (.int x) (g, x :: xs)) : RO (J.withG gr B.mg) (rIxU K) (.raw (.ref gr)) (.int 0) (g, x :: xs) Φ := fun F H v w o d1 d2 Q q => by
  cases d1
  cases d2
  exact .inl ⟨_, _, _, V.int x, rfl, rfl, .inl (.inl o.c.2.1), atI_nat (j := 0) rfl, q _ _ F H _ k o Tr.refl (.int _)⟩
theorem we_pop_g (B : BagJ J b gr fold cnt bump) {x : Int} {xs : List Int} {g : G} (h : WE (J.withG gr B.mg) ds (g, x :: xs) te fun d g1 => d = .raw (.ref gr) ∧ WA (J.withG gr B.mg) ds g1 ta fun es g2 => es = [.int 0] ∧ g2 = (g, x :: xs) ∧ Φ (.int x) (g, xs)) :
    WE (J.withG gr B.mg) ds (g, x :: xs) (tBM K "list" rPopAt te ta) Φ := fun F H σ o e Q q =>
  h F H σ o e _ fun v d F1 H1 g1 h1 o1 t1 d1 => by
    obtain ⟨rfl, h1⟩ := h1
    cases d1
    refine ⟨.inl ⟨rfl, _, .inl (.inl o1.c.2.1)⟩, h1 F1 H1 σ o1 (e.mono t1.f) _ fun vs es F2 H2 g2 h2 o2 t2 d2 => ?_⟩
    obtain ⟨rfl, rfl, k⟩ := h2
    cases d2 with
    | cons d2 dn =>
      cases dn
      cases d2
      have hx := o2.c.2.2
      exact ⟨gr, _, 0, 0, V.int x, rfl, rfl, o2.c.2.1, by decide, by decide, by simp [seqIndex?], rfl, q _ _ F2 _ _ k (o2.setG1 B fun y hy => hx y (.tail _ hy)) ((t1.trans t2).trans (tr_upd B.mg)) (.int _)⟩
theorem ws_set_g (B : BagJ J b gr fold cnt bump) {x : Int} {xs : List Int} {g : G} (h : WE (J.withG gr B.mg) ds (g, x :: xs) te fun z g1 => WE (J.withG gr B.mg) ds g1 to fun d g2 => d = .raw (.ref gr) ∧ WE (J.withG gr B.mg) ds g2 ti fun y g3 => ∃ n : Int, y = .int 0 ∧ z = .int n ∧ 0 ≤ n ∧ g3 = (g, x :: xs) ∧ E.nx ds (g, n :: xs)) :
    WS (J.withG gr B.mg) ds (g, x :: xs) (tAsg te (gSub to ti L2.rSetL)) E := fun F H σ o e D n r bk c =>
  h F H σ o e _ fun v x F1 H1 g1 h1 o1 t1 d1 => h1 F1 H1 σ o1 (e.mono t1.f) _ fun u d F2 H2 g2 h2 o2 t2 d2 => by
    obtain ⟨rfl, h2⟩ := h2
    cases d2
    refine h2 F2 H2 σ o2 (e.mono (t1.trans t2).f) _ fun iv y F3 H3 g3 h3 o3 t3 d3 => ?_
    obtain ⟨m, rfl, rfl, hm, rfl, k⟩ := h3
    cases d3
    cases d1
    have hx := o3.c.2.2
    refine ⟨gr, _, _, 0, rfl, rfl, o3.c.2.1, by simp [ixN], n σ ds F3 _ _ k (o3.setG1 B (l := m :: xs) fun y hy => ?_) (((t1.trans t2).trans t3).trans (tr_upd B.mg)) (e.mono ((t1.trans t2).trans t3).f)⟩
    cases hy with
    | head => exact hm
    | tail _ hy => exact hx y (.tail _ hy)
end
theorem ws_while {G : Type} {J : JT G} {ds : DE} {g : G} {tt : TT} {t : TS} {E : Es G} (I : G → Prop) (μ : G → Nat) (h0 : I g)
    (hs : ∀ g, I g → WT J ds g tt fun b g1 => (b = true → WS J ds g1 t { nx := fun ds' g2 => ds' = ds ∧ I g2 ∧ μ g2 < μ g, ct := fun ds' g2 => ds' = ds ∧ I g2 ∧ μ g2 < μ g, bk := E.nx, rt := E.rt }) ∧ (b = false → E.nx ds g1)) : WS J ds g (tWhile tt t) E := fun F H σ o e D n r bk c => by
  refine ⟨fun m σ' H' => ∃ F' g', m = μ g' ∧ I g' ∧ J.Ok F' H' g' ∧ Tr J F H F' H' ∧ Env F' σ' ds, ⟨_, F, g, rfl, h0, o, Tr.refl, e⟩, ?_⟩
  rintro m σ' H' ⟨F', g', rfl, hI, o', t', e'⟩
  refine hs g' hI F' H' σ' o' e' _ fun b F1 H1 g1 h1 o1 t1 => ?_
  cases b with
  | false => exact n _ _ F1 H1 g1 (h1.2 rfl) o1 (t'.trans t1) (e'.mono t1.f)
  | true =>
    have fin : ∀ σ2 ds2 F2 H2 g2, (ds2 = ds ∧ I g2 ∧ μ g2 < μ g') → J.Ok F2 H2 g2 → Tr J F1 H1 F2 H2 → Env F2 σ2 ds2 → ∃ F3 g3, (μ g2 : Nat) = μ g3 ∧ I g3 ∧ J.Ok F3 H2 g3 ∧ Tr J F H F3 H2 ∧ Env F3 σ2 ds := fun σ2 ds2 F2 H2 g2 h2 o2 t2 e2 => by
      obtain ⟨rfl, h2, h3⟩ := h2
      exact ⟨F2, g2, rfl, h2, o2, (t'.trans t1).trans t2, e2⟩
    refine ⟨fun σ2 H2 => ∃ m', m' < μ g' ∧ ∃ F3 g3, m' = μ g3 ∧ I g3 ∧ J.Ok F3 H2 g3 ∧ Tr J F H F3 H2 ∧ Env F3 σ2 ds, fun σ2 H2 z => z, ?_⟩
    exact h1.1 rfl F1 H1 σ' o1 (e'.mono t1.f) _ (fun σ2 ds2 F2 H2 g2 h2 o2 t2 e2 => ⟨_, h2.2.2, fin σ2 ds2 F2 H2 g2 h2 o2 t2 e2⟩) (fun v d F2 H2 g2 h2 o2 t2 d2 => r v d F2 H2 g2 h2 o2 ((t'.trans t1).trans t2) d2)
      (fun σ2 ds2 F2 H2 g2 h2 o2 t2 e2 => n σ2 ds2 F2 H2 g2 h2 o2 ((t'.trans t1).trans t2) e2) (fun σ2 ds2 F2 H2 g2 h2 o2 t2 e2 => ⟨_, h2.2.2, fin σ2 ds2 F2 H2 g2 h2 o2 t2 e2⟩)
/-- what a draw gives: a number below many; one more drawn -/
def S__law_draw : DS := fun G J es g Φ => ∃ (b gr : Addr) (fold : Int) (cnt : G → Nat) (bump : G → Nat → G) (many : Int), es = [.raw (.ref b), .int many] ∧ BagJ J b gr fold cnt bump ∧ 0 < many ∧ many < 1073741824 ∧ cnt g < 1000000 ∧
  ∀ i : Int, 0 ≤ i → i < many → Φ (.int i) (bump g (cnt g + 1))
end TM

/-! Defs that draw. -/
namespace TM
open PySem L2
section
variable {G : Type} {J : JT G} {b gr : Addr} {fold : Int} {cnt : G → Nat} {bump : G → Nat → G} {ds : DE} {K : PySem.W.Frag} {g : G} {Φ : Dv → G → Prop} {ta : TA} {p : Addr} {gx : G × List Dv} {Ψ : Dv → G × List Dv → Prop} {X : XK}
theorem ws_start (B : BagJ J b gr fold cnt bump) {t : TS} {E : Es G} (h : WS J ds (bump g (cnt g)) t E) : WS J ds g t E := by
  rw [B.c3] at h
  exact h
theorem we_draw (B : BagJ J b gr fold cnt bump) (h : WA J ds g ta fun es g1 => ∃ (g0 : G) (n : Nat) (many : Int), es = [.raw (.ref b), .int many] ∧ g1 = bump g0 n ∧ (0 < many ∧ many < 1073741824) ∧ n < 1000000 ∧ ∀ i : Int, 0 ≤ i → i < many → Φ (.int i) (bump g0 (n + 1))) :
    WE J ds g (tCall (spD S__law_draw) [] X ta) Φ := we_call fun F H σ o e Q q => h F H σ o e Q fun vs es F' H' g1 h' => q vs es F' H' g1 (by
  obtain ⟨g0, n, many, rfl, rfl, h1, h2, h3⟩ := h'
  refine ⟨b, gr, fold, cnt, bump, many, rfl, B, h1.1, h1.2, by rw [B.c1]; exact h2, fun i i0 i1 => ?_⟩
  rw [B.c1, B.c2]
  exact h3 i i0 i1)
theorem we_drawL (B : BagJ J b gr fold cnt bump) (np : p ∉ J.M) (h : WA (J.withL p) ds gx ta fun es g1 => ∃ (g0 : G) (n : Nat) (xs : List Dv) (many : Int), es = [.raw (.ref b), .int many] ∧ g1 = (bump g0 n, xs) ∧ (0 < many ∧ many < 1073741824) ∧ n < 1000000 ∧ ∀ i : Int, 0 ≤ i → i < many → Ψ (.int i) (bump g0 (n + 1), xs)) :
    WE (J.withL p) ds gx (tCall (spD S__law_draw) [] X ta) Ψ := we_call fun F H σ o e Q q => h F H σ o e Q fun vs es F' H' g1 h' => q vs es F' H' g1 (by
  obtain ⟨g0, n, xs, many, rfl, rfl, h1, h2, h3⟩ := h'
  refine ⟨b, gr, fold, _, _, many, rfl, B.withL np, h1.1, h1.2, by simp only [B.c1]; exact h2, fun i i0 i1 => ?_⟩
  simp only [B.c1, B.c2]
  exact h3 i i0 i1)
/-- what a def that draws promises: what it gives, at most k draws on -/
def BagS {α : Type} (k : α → Nat) (arg : α → List Dv) (ok : α → Prop) (R : α → Dv → Prop) : DS := fun G J es g Φ => ∃ (a : α) (b gr : Addr) (fold : Int) (cnt : G → Nat) (bump : G → Nat → G), es = .raw (.ref b) :: arg a ∧ BagJ J b gr fold cnt bump ∧ ok a ∧ cnt g + k a ≤ 1000000 ∧
  ∀ d n, cnt g ≤ n → n ≤ cnt g + k a → R a d → Φ d (bump g n)
theorem we_bag {α : Type} {k : α → Nat} {arg : α → List Dv} {ok : α → Prop} {R : α → Dv → Prop} (B : BagJ J b gr fold cnt bump) (h : WA J ds g ta fun es g1 => ∃ (a : α) (g0 : G) (n : Nat), es = .raw (.ref b) :: arg a ∧ g1 = bump g0 n ∧ ok a ∧ n + k a ≤ 1000000 ∧
    ∀ d m, n ≤ m → m ≤ n + k a → R a d → Φ d (bump g0 m)) : WE J ds g (tCall (spD (BagS k arg ok R)) [] X ta) Φ := we_call fun F H σ o e Q q => h F H σ o e Q fun vs es F' H' g1 h' => q vs es F' H' g1 (by
  obtain ⟨a, g0, n, rfl, rfl, h1, h2, h3⟩ := h'
  refine ⟨a, b, gr, fold, cnt, bump, rfl, B, h1, by rw [B.c1]; exact h2, fun d m m0 m1 hR => ?_⟩
  rw [B.c1] at m0 m1
  rw [B.c2]
  exact h3 d m m0 m1 hR)
theorem we_bagL {α : Type} {k : α → Nat} {arg : α → List Dv} {ok : α → Prop} {R : α → Dv → Prop} (B : BagJ J b gr fold cnt bump) (np : p ∉ J.M) (h : WA (J.withL p) ds gx ta fun es g1 => ∃ (a : α) (g0 : G) (n : Nat) (xs : List Dv), es = .raw (.ref b) :: arg a ∧ g1 = (bump g0 n, xs) ∧ ok a ∧ n + k a ≤ 1000000 ∧
    ∀ d m, n ≤ m → m ≤ n + k a → R a d → Ψ d (bump g0 m, xs)) : WE (J.withL p) ds gx (tCall (spD (BagS k arg ok R)) [] X ta) Ψ := we_call fun F H σ o e Q q => h F H σ o e Q fun vs es F' H' g1 h' => q vs es F' H' g1 (by
  obtain ⟨a, g0, n, xs, rfl, rfl, h1, h2, h3⟩ := h'
  refine ⟨a, b, gr, fold, _, _, rfl, B.withL np, h1, by simp only [B.c1]; exact h2, fun d m m0 m1 hR => ?_⟩
  simp only [B.c1] at m0 m1
  simp only [B.c2]
  exact h3 d m m0 m1 hR)
theorem at_any {xs : List Dv} {i : Int} (h0 : 0 ≤ i) (h1 : i < xs.length) : ∃ d, atI xs i = some d ∧ d ∈ xs := by
  obtain ⟨a, rfl⟩ := Int.eq_ofNat_of_zero_le h0
  have ha : a < xs.length := by omega
  exact ⟨xs[a], at_get (List.getElem?_eq_getElem ha), List.getElem_mem ha⟩
theorem ro_ix_any {xs : List Dv} {i : Int} (h : 0 ≤ i ∧ i < xs.length ∧ ∀ d ∈ xs, Φ d g) : RO J (rIxU K) (.lst xs) (.int i) g Φ := by
  obtain ⟨d, h1, h2⟩ := at_any h.1 h.2.1
  exact ro_ix_lE ⟨d, h1, h.2.2 d h2⟩
theorem ex_any {xs : List Dv} {i : Int} {P : Dv → Prop} (h : 0 ≤ i ∧ i < xs.length ∧ ∀ d ∈ xs, P d) : ∃ d, atI xs i = some d ∧ P d := by
  obtain ⟨d, h1, h2⟩ := at_any h.1 h.2.1
  exact ⟨d, h1, h.2.2 d h2⟩
theorem ex_ints (xs : List Int) {i : Int} {P : Dv → Prop} (h : 0 ≤ i ∧ i < xs.length ∧ ∀ d ∈ xs, P (.int d)) : ∃ d, atI (intsD xs) i = some d ∧ P d := ex_any ⟨h.1, by rw [List.length_map]; exact h.2.1, fun d hd => by
  obtain ⟨x, hx, rfl⟩ := List.mem_map.mp hd
  exact h.2.2 x hx⟩
/-- one of written numbers -/
theorem ro_ix_ints {xs : List Int} {i : Int} (h : 0 ≤ i ∧ i < xs.length ∧ ∀ d ∈ xs, Φ (.int d) g) : RO J (rIxU K) (.lst (intsD xs)) (.int i) g Φ := ro_ix_any ⟨h.1, by rw [List.length_map]; exact h.2.1, fun d hd => by
  obtain ⟨x, hx, rfl⟩ := List.mem_map.mp hd
  exact h.2.2 x hx⟩
theorem we_lcD {wi : TI} {te : TE} {i : Nat} (h : WI J ds g wi fun xs g1 => ∃ (N n0 c : Nat) (g0 : G) (P : Dv → Prop), xs = rngD N ∧ N ≤ 50000 ∧ g1 = bump g0 n0 ∧
      (∀ x n, n0 ≤ n → n + c ≤ n0 + N * c → WE J ((wipeD ds [i]).set i (some x)) (bump g0 n) te fun d g' => P d ∧ ∃ m, n ≤ m ∧ m ≤ n + c ∧ g' = bump g0 m) ∧
      (∀ acc m, acc.length = N → (∀ d ∈ acc, P d) → n0 ≤ m → m ≤ n0 + N * c → Φ (.lst acc) (bump g0 m))) : WE J ds g (tLc wi (gName i) tYes te [i]) Φ := we_lc tg_name fun F H σ o e R q => h F H σ o e R fun it xs F' H' g1 h' => q it xs F' H' g1 (by
  obtain ⟨N, n0, c, g0, P, rfl, hN, rfl, hs, hd⟩ := h'
  have hl : (rngD N).length = N := by simp [rngD]
  refine ⟨by rw [hl]; exact hN, fun j acc g' => acc.length = j ∧ (∀ d ∈ acc, P d) ∧ ∃ m, n0 ≤ m ∧ m ≤ n0 + j * c ∧ g' = bump g0 m, ⟨rfl, (fun d hd => by cases hd), n0, Nat.le_refl _, by omega, rfl⟩, ?_, ?_⟩
  · rintro j x acc g' hx ⟨rfl, ha, m, m0, m1, rfl⟩
    have hj : acc.length < N := by
      have := (List.getElem?_eq_some_iff.mp hx).1
      rwa [hl] at this
    have hm : m + c ≤ n0 + N * c := by
      have : (acc.length + 1) * c ≤ N * c := Nat.mul_le_mul_right c hj
      rw [Nat.add_mul, Nat.one_mul] at this
      omega
    refine ⟨_, rfl, wt_yes ⟨fun _ => (hs x m m0 hm).imp fun d g2 h2 => ?_, fun z => nomatch z⟩⟩
    obtain ⟨hP, m2, h3, h4, rfl⟩ := h2
    refine ⟨by simp, fun d' hd' => ?_, m2, by omega, by rw [Nat.add_mul, Nat.one_mul]; omega, rfl⟩
    rcases List.mem_append.mp hd' with q | q
    · exact ha d' q
    · have : d' = d := by simpa using q
      rw [this]
      exact hP
  · rintro acc g' ⟨h1, h2, m, m0, m1, rfl⟩
    rw [hl] at h1 m1
    exact hd acc m h1 h2 m0 m1)
theorem we_lcE {wi : TI} {te : TE} {i : Nat} (h : WI J ds g wi fun xs g1 => ∃ (α : Type) (l : List α) (enc : α → Dv) (n0 c : Nat) (g0 : G) (P : Dv → Prop), xs = l.map enc ∧ l.length ≤ 50000 ∧ g1 = bump g0 n0 ∧
      (∀ x n, x ∈ l → n0 ≤ n → n + c ≤ n0 + l.length * c → WE J ((wipeD ds [i]).set i (some (enc x))) (bump g0 n) te fun d g' => P d ∧ ∃ m, n ≤ m ∧ m ≤ n + c ∧ g' = bump g0 m) ∧
      (∀ acc m, acc.length = l.length → (∀ d ∈ acc, P d) → n0 ≤ m → m ≤ n0 + l.length * c → Φ (.lst acc) (bump g0 m))) : WE J ds g (tLc wi (gName i) tYes te [i]) Φ := we_lc tg_name fun F H σ o e R q => h F H σ o e R fun it xs F' H' g1 h' => q it xs F' H' g1 (by
  obtain ⟨α, l, enc, n0, c, g0, P, rfl, hN, rfl, hs, hd⟩ := h'
  have hl : (l.map enc).length = l.length := List.length_map _
  refine ⟨by rw [hl]; exact hN, fun j acc g' => acc.length = j ∧ (∀ d ∈ acc, P d) ∧ ∃ m, n0 ≤ m ∧ m ≤ n0 + j * c ∧ g' = bump g0 m, ⟨rfl, (fun d hd => by cases hd), n0, Nat.le_refl _, by omega, rfl⟩, ?_, ?_⟩
  · rintro j x acc g' hx ⟨rfl, ha, m, m0, m1, rfl⟩
    have hj : acc.length < l.length := by
      have := (List.getElem?_eq_some_iff.mp hx).1
      rwa [hl] at this
    obtain ⟨r, hr, rfl⟩ := List.mem_map.mp (List.mem_of_getElem? hx)
    have hm : m + c ≤ n0 + l.length * c := by
      have : (acc.length + 1) * c ≤ l.length * c := Nat.mul_le_mul_right c hj
      rw [Nat.add_mul, Nat.one_mul] at this
      omega
    refine ⟨_, rfl, wt_yes ⟨fun _ => (hs r m hr m0 hm).imp fun d g2 h2 => ?_, fun z => nomatch z⟩⟩
    obtain ⟨hP, m2, h3, h4, rfl⟩ := h2
    refine ⟨by simp, fun d' hd' => ?_, m2, by omega, by rw [Nat.add_mul, Nat.one_mul]; omega, rfl⟩
    rcases List.mem_append.mp hd' with q | q
    · exact ha d' q
    · have : d' = d := by simpa using q
      rw [this]
      exact hP
  · rintro acc g' ⟨h1, h2, m, m0, m1, rfl⟩
    rw [hl] at h1 m1
    exact hd acc m h1 h2 m0 m1)
theorem all_map {α : Type} (enc : α → Dv) {P : α → Prop} : ∀ {acc : List Dv}, (∀ d ∈ acc, ∃ a, d = enc a ∧ P a) → ∃ l : List α, acc = l.map enc ∧ ∀ a ∈ l, P a
  | [], _ => ⟨[], rfl, fun _ h => nomatch h⟩
  | d :: ds, h => by
    obtain ⟨a, rfl, ha⟩ := h d (.head _)
    obtain ⟨l, rfl, hl⟩ := all_map enc fun d hd => h d (.tail _ hd)
    exact ⟨a :: l, rfl, fun x hx => by
      cases hx with
      | head => exact ha
      | tail _ hx => exact hl x hx⟩
end
theorem wrD_tup {x : Wr} (h : x ≠ .no) : ∃ nm i w, wrD x = .tup [.str nm, .int i, .int w] := by
  cases x
  case no => exact absurd rfl h
  all_goals exact ⟨_, _, _, rfl⟩
theorem evD_tup (e : Ev) : ∃ nm xs, evD e = .tup (.str nm :: xs) := by cases e <;> exact ⟨_, _, rfl⟩
theorem noRaw_ev (e : Ev) : noRaw (evD e) = true := by cases e <;> rfl
theorem isN_ev (e : Ev) : isN (evD e) = false := by cases e <;> rfl
theorem noRaw_cause (c : Cause) : noRaw (causeD c) = true := by cases c <;> rfl
theorem isN_cause (c : Cause) : isN (causeD c) = c.isNone := by cases c <;> rfl
theorem slow_spot {r : Row} (h : slow r = true) (sp ce : List Int) : ∃ d w, wroteBy sp ce r = .spot d w := by
  cases r <;> first | (exact ⟨_, _, rfl⟩) | (simp [slow] at h)
section
variable {G : Type} {J : JT G} {ds : DE} {g : G} {E : Es G} {t : TS}
theorem ws_mid (P : DE → G → Prop) (h1 : WS J ds g t { E with nx := P }) (h2 : ∀ ds' g', P ds' g' → E.nx ds' g') : WS J ds g t E := fun F H σ o e D n r b c =>
  h1 F H σ o e D (fun σ' ds' F' H' g' h => n σ' ds' F' H' g' (h2 ds' g' h)) r b c
end
/-! ### the promises -/
def isI (P : Int → Prop) : Dv → Prop := fun d => ∃ i, d = .int i ∧ P i
abbrev S__law_far : DS := BagS (α := Unit) (fun _ => 7) (fun _ => []) (fun _ => True) fun _ => isI fun i => 0 ≤ i
abbrev S__law_worth : DS := BagS (α := Unit) (fun _ => 3) (fun _ => []) (fun _ => True) fun _ => isI fun i => 0 ≤ i ∧ i < 4294967296
abbrev S__law_row : DS := BagS (α := Nat × Nat) (fun _ => 10) (fun a => [.int a.1, .int a.2]) (fun a => a.1 ≤ 40 ∧ 1 ≤ a.2 ∧ a.2 ≤ 8) fun a d => ∃ r : Row, d = rowD r ∧ r.ok ∧ ∀ x p, r = .go x p → 0 ≤ p ∧ p ≤ a.1
abbrev S__law_mill : DS := BagS (α := Unit) (fun _ => 1000) (fun _ => []) (fun _ => True) fun _ d => ∃ m : Mill, d = millD m ∧ m.ok
abbrev S__law_state : DS := BagS (α := Mill) (fun _ => 100) (fun m => [millD m]) (fun m => m.ok) fun m d => ∃ s : Stt, d = sttD s ∧ s.ok m
abbrev S__law_rings : DS := BagS (α := Mill × Int) (fun _ => 1000) (fun a => [millD a.1, .int a.2]) (fun a => a.1.ok) fun a d => ∃ rs : Rings, d = ringsD rs ∧ Rings.ok a.1 rs
abbrev S__law_terms : DS := BagS (α := Unit) (fun _ => 100) (fun _ => []) (fun _ => True) fun _ d => ∃ tm : Tm, d = tmD tm
abbrev S__law_some : DS := BagS (α := Mill × Rings × Tm × Sd × Int) (fun _ => 10) (fun a => [millD a.1, ringsD a.2.1, tmD a.2.2.1, nowD a.2.2.2.1, .int a.2.2.2.2]) (fun a => a.1.ok ∧ Rings.ok a.1 a.2.1 ∧ a.2.2.2.1.ok a.1)
  fun a d => ∃ e : Option Ev, d = evO e ∧ ∀ x, e = some x → Good a.1 a.2.2.2.1 x
abbrev S__law_wild : DS := BagS (α := Sd) (fun _ => 40) (fun a => [nowD a]) (fun _ => True) fun a d => ∃ e : Ev, d = evD e
abbrev S__law_other_number : DS := BagS (α := Int) (fun _ => 10) (fun a => [.int a]) (fun _ => True) fun a => isI fun _ => True
abbrev S__law_other_wrote : DS := BagS (α := Wro × Wr) (fun _ => 30) (fun a => [wroD a.1, wrD a.2]) (fun a => a.2 = .no ↔ a.1 = .no) fun a d => ∃ w : Wro, d = wroD w
abbrev S__law_spoilt : DS := BagS (α := Mill × Tm × Sd × Option Ev) (fun _ => 1200) (fun a => [millD a.1, tmD a.2.1, nowD a.2.2.1, evO a.2.2.2]) (fun a => a.1.ok ∧ a.2.2.1.ok a.1 ∧ ∀ x, a.2.2.2 = some x → Good a.1 a.2.2.1 x) fun a d => ∃ e : Ev, d = evD e
end TM

/-! The law's own state: a dict and its lists, which change; all else is read over data. -/
namespace TM
open PySem L2
/-- data without a list or a dict in it -/
def tupO : Nat → Dv → Bool
  | _, .non => true
  | _, .bl _ => true
  | _, .int _ => true
  | _, .str _ => true
  | _, .raw _ => true
  | n + 1, .tup xs => xs.all (tupO n)
  | _, _ => false
theorem dt_hideAll {F F2 : Hp} {n : Nat} (ih : ∀ (v : V) (d : Dv), tupO n d = true → Dt F v d → Dt F2 v d) : ∀ {vs : List V} {ds : List Dv}, ds.all (tupO n) = true → DtAll F vs ds → DtAll F2 vs ds
  | _, _, _, .nil => .nil
  | _, _, e, .cons h t => by
    rw [List.all_cons, Bool.and_eq_true] at e
    exact .cons (ih _ _ e.1 h) (dt_hideAll ih e.2 t)
theorem dt_hide {F F2 : Hp} (hF : ∀ x xs, Rd F x (.tup xs) → F2 x = F x) : ∀ (n : Nat) (v : V) (d : Dv), tupO n d = true → Dt F v d → Dt F2 v d
  | 0, v, d, e, h => by
    cases h <;> first | exact .non | exact .bl _ | exact .int _ | exact .str _ | exact .raw _ | (simp [tupO] at e)
  | n + 1, v, d, e, h => by
    cases h with
    | non => exact .non
    | bl b => exact .bl b
    | int i => exact .int i
    | str s => exact .str s
    | tup ha da =>
      have q := hF _ _ ha
      refine .tup ?_ (dt_hideAll (dt_hide hF n) e da)
      rcases ha with ha | ⟨o, ha⟩
      · exact .inl (by rw [q]; exact ha)
      · exact .inr ⟨o, by rw [q]; exact ha⟩
    | lst _ _ => simp [tupO] at e
    | tupz _ _ _ => simp [tupO] at e
    | dic _ _ => simp [tupO] at e
    | raw v => exact .raw v
/-- the places of the lists -/
structure Pts where
  p1 : Addr
  p2 : Addr
  p3 : Addr
  p4 : Addr
  p5 : Addr
def Pts.all (ps : Pts) (a : Addr) : List Addr := [a, ps.p1, ps.p2, ps.p3, ps.p4, ps.p5]
abbrev optV : Option Int → V
  | none => .non
  | some i => .int i
abbrev nowV (sd : Sd) (ps : Pts) : List (Key × V) := [(Sum.inr "place", .int sd.st.place), (Sum.inr "spots", .ref ps.p1), (Sum.inr "cells", .ref ps.p2), (Sum.inr "shut", .bl sd.st.shut), (Sum.inr "kept", optV sd.st.kept), (Sum.inr "beat", .int sd.beat),
  (Sum.inr "crowd", .int sd.crowd), (Sum.inr "pressed", .int sd.pressed), (Sum.inr "owed", .ref ps.p3), (Sum.inr "laid", .ref ps.p4), (Sum.inr "took", .ref ps.p5), (Sum.inr "ends", .int sd.ends)]
structure NowX {G : Type} (J : JT G) (F H : Hp) (a : Addr) (ps : Pts) (sd : Sd) : Prop where
  nd : (ps.all a).Nodup
  fn : ∀ x ∈ ps.all a, F x = none ∧ x ∉ J.M
  ha : H a = some (.dK (nowV sd ps))
  h1 : H ps.p1 = some (.lst (sd.st.spots.map V.int))
  h2 : H ps.p2 = some (.lst (sd.st.cells.map V.int))
  h3 : ∃ vs, H ps.p3 = some (.lst vs) ∧ DtAll F vs (sd.owed.map owD)
  h4 : ∃ vs, H ps.p4 = some (.lst vs) ∧ DtAll F vs (sd.laid.map laD)
  h5 : H ps.p5 = some (.lst (sd.took.map V.int))
structure JFree {G : Type} (J : JT G) : Prop where
  h : ∀ {F F' H : Hp} {g : G}, (∀ x xs, Rd F x (.tup xs) → F' x = F x) → J.C F H g → J.C F' H g
theorem dt_optV {F : Hp} (o : Option Int) : Dt F (optV o) (optD o) := by
  cases o with
  | none => exact .non
  | some i => exact .int i
section
variable {G : Type} {J : JT G} {F H : Hp} {a : Addr} {ps : Pts} {sd : Sd} {g : G}
theorem NowX.lstOrDict (N : NowX J F H a ps sd) {x : Addr} (hx : x ∈ ps.all a) : (∃ vs, H x = some (.lst vs)) ∨ ∃ kvs, H x = some (.dK kvs) := by
  simp only [Pts.all, List.mem_cons, List.not_mem_nil, or_false] at hx
  rcases hx with rfl | rfl | rfl | rfl | rfl | rfl
  · exact .inr ⟨_, N.ha⟩
  · exact .inl ⟨_, N.h1⟩
  · exact .inl ⟨_, N.h2⟩
  · obtain ⟨vs, h, _⟩ := N.h3
    exact .inl ⟨_, h⟩
  · obtain ⟨vs, h, _⟩ := N.h4
    exact .inl ⟨_, h⟩
  · exact .inl ⟨_, N.h5⟩
/-- the state stands unchanged beside more that is frozen -/
theorem NowX.keep (N : NowX J F H a ps sd) {F' H' : Hp} (s : Same F F') (hn : ∀ x ∈ ps.all a, F' x = none) (hh : ∀ x ∈ ps.all a, H' x = H x) : NowX J F' H' a ps sd where
  nd := N.nd
  fn := fun x hx => ⟨hn x hx, (N.fn x hx).2⟩
  ha := by rw [hh _ (by simp [Pts.all])]; exact N.ha
  h1 := by rw [hh _ (by simp [Pts.all])]; exact N.h1
  h2 := by rw [hh _ (by simp [Pts.all])]; exact N.h2
  h3 := by
    obtain ⟨vs, h, d⟩ := N.h3
    exact ⟨vs, by rw [hh _ (by simp [Pts.all])]; exact h, d.mono s⟩
  h4 := by
    obtain ⟨vs, h, d⟩ := N.h4
    exact ⟨vs, by rw [hh _ (by simp [Pts.all])]; exact h, d.mono s⟩
  h5 := by rw [hh _ (by simp [Pts.all])]; exact N.h5
/-- a pure run over the state: frozen for the run, loose again behind it -/
theorem NowX.pure (fr : JFree J) (N : NowX J F H a ps sd) (o : J.Ok F H g) : ∃ FN, Same F FN ∧ J.Ok FN H g ∧ Dt FN (.ref a) (nowD sd) ∧ (∀ x ∈ ps.all a, FN x = H x) ∧ ∀ F1 H1 g1, J.Ok F1 H1 g1 → Tr J FN H F1 H1 →
    ∃ F2, Same F F2 ∧ J.Ok F2 H1 g1 ∧ NowX J F2 H1 a ps sd ∧ (∀ n v d, tupO n d = true → Dt F1 v d → Dt F2 v d) ∧ (∀ x, x ∉ ps.all a → F2 x = F1 x) := by
  have sF : Same F fun x => if x ∈ ps.all a then H x else F x := fun x u hx => by
    by_cases m : x ∈ ps.all a
    · rw [(N.fn x m).1] at hx
      cases hx
    · show (if x ∈ ps.all a then H x else F x) = some u
      rw [if_neg m]
      exact hx
  have sH : Same (fun x => if x ∈ ps.all a then H x else F x) H := fun x u hx => by
    by_cases m : x ∈ ps.all a
    · have hx : (if x ∈ ps.all a then H x else F x) = some u := hx
      rw [if_pos m] at hx
      exact hx
    · have hx : (if x ∈ ps.all a then H x else F x) = some u := hx
      rw [if_neg m] at hx
      exact o.ex _ _ hx
  have eN : ∀ x ∈ ps.all a, (fun x => if x ∈ ps.all a then H x else F x) x = H x := fun x m => if_pos m
  refine ⟨fun x => if x ∈ ps.all a then H x else F x, sF, ⟨sH, fun m hm => ⟨?_, (o.mu m hm).2⟩, J.mono o.c sF sH fun _ _ => rfl⟩, ?_, eN, fun F1 H1 g1 o1 t1 => ?_⟩
  · have nm : m ∉ ps.all a := fun z => (N.fn m z).2 hm
    show (if m ∈ ps.all a then H m else F m) = none
    rw [if_neg nm]
    exact (o.mu m hm).1
  · obtain ⟨v3, h3, d3⟩ := N.h3
    obtain ⟨v4, h4, d4⟩ := N.h4
    have q : ∀ x u, x ∈ ps.all a → H x = some u → (fun x => if x ∈ ps.all a then H x else F x) x = some u := fun x u m h => by rw [eN x m]; exact h
    refine .dic (q a _ (by simp [Pts.all]) N.ha) ?_
    refine .cons (.int _) (.cons (.lst (q _ _ (by simp [Pts.all]) N.h1) (DtAll.ints _)) (.cons (.lst (q _ _ (by simp [Pts.all]) N.h2) (DtAll.ints _)) (.cons (.bl _) (.cons (dt_optV _) (.cons (.int _) (.cons (.int _) (.cons (.int _)
      (.cons (.lst (q _ _ (by simp [Pts.all]) h3) (d3.mono sF)) (.cons (.lst (q _ _ (by simp [Pts.all]) h4) (d4.mono sF)) (.cons (.lst (q _ _ (by simp [Pts.all]) N.h5) (DtAll.ints _)) (.cons (.int _) .nil)))))))))))
  · have e1 : ∀ x ∈ ps.all a, F1 x = H x := fun x m => by
      rcases N.lstOrDict m with ⟨vs, h⟩ | ⟨kvs, h⟩
      · rw [h]
        exact t1.f x _ ((eN x m).trans h)
      · rw [h]
        exact t1.f x _ ((eN x m).trans h)
    have e2 : ∀ x ∈ ps.all a, H1 x = H x := fun x m => by
      have q := e1 x m
      rcases N.lstOrDict m with ⟨vs, h⟩ | ⟨kvs, h⟩
      · rw [h] at q ⊢
        exact o1.ex _ _ q
      · rw [h] at q ⊢
        exact o1.ex _ _ q
    have f2 : ∀ x, x ∉ ps.all a → (fun x => if x ∈ ps.all a then none else F1 x) x = F1 x := fun x m => if_neg m
    have s2 : Same (fun x => if x ∈ ps.all a then none else F1 x) F1 := fun x u hx => by
      by_cases m : x ∈ ps.all a
      · have hx : (if x ∈ ps.all a then none else F1 x) = some u := hx
        rw [if_pos m] at hx
        cases hx
      · rw [← f2 x m]
        exact hx
    have s3 : Same F (fun x => if x ∈ ps.all a then none else F1 x) := fun x u hx => by
      have m : x ∉ ps.all a := fun m => by
        rw [(N.fn x m).1] at hx
        cases hx
      rw [f2 x m]
      exact t1.f x u (sF x u hx)
    have tp : ∀ x xs, Rd F1 x (.tup xs) → (fun x => if x ∈ ps.all a then none else F1 x) x = F1 x := fun x xs hx => f2 x fun m => by
      have q := e1 x m
      rcases N.lstOrDict m with ⟨vs, h⟩ | ⟨kvs, h⟩ <;> rw [h] at q <;> rcases hx with hx | ⟨ob, hx⟩ <;> rw [q] at hx <;> cases hx
    refine ⟨fun x => if x ∈ ps.all a then none else F1 x, s3, ⟨s2.trans o1.ex, fun m hm => ⟨?_, (o1.mu m hm).2⟩, fr.h tp o1.c⟩, N.keep s3 (fun x m => if_pos m) e2, fun n v d hn hd => dt_hide tp n v d hn hd, f2⟩
    · have nm : m ∉ ps.all a := fun z => (N.fn m z).2 hm
      exact (f2 m nm).trans (o1.mu m hm).1
end
/-! ### statements over the state -/
class NowS (ds : DE) (a : Addr) (nw : Dv) (ds' : outParam DE) : Prop where
  h : ∀ {F : Hp} {σ : St}, Env F σ ds → Dt F (.ref a) nw → Env F σ ds'
instance (priority := low) NowS.tail {x : Option Dv} {ds ds' : DE} {a : Addr} {nw : Dv} [c : NowS ds a nw ds'] : NowS (x :: ds) a nw (x :: ds') := ⟨fun e d => by
  cases e with
  | ens h t => exact .ens h (c.h t d)
  | enn t => exact .enn (c.h t d)⟩
instance (priority := high) NowS.head {ds : DE} {a : Addr} {nw : Dv} : NowS (some (.raw (.ref a)) :: ds) a nw (some nw :: ds) := ⟨fun e d => by
  cases e with
  | ens h t =>
    cases h
    exact .ens d t⟩
structure EsN (G : Type) where
  nx : DE → G → Sd → Prop
  rt : Dv → G → Sd → Prop
section
variable {G : Type} {J : JT G} {a : Addr} {ds ds' : DE} {g : G} {sd : Sd} {t u : TS} {E : EsN G} {te : TE} {tt : TT} {K : PySem.W.Frag}
def WN (J : JT G) (a : Addr) (ds : DE) (g : G) (sd : Sd) (t : TS) (E : EsN G) : Prop := ∀ (F H : Hp) (σ : St) (ps : Pts), J.Ok F H g → NowX J F H a ps sd → Env F σ ds → ∀ D : Ends,
  (∀ σ' ds' F' H' g' sd' ps', E.nx ds' g' sd' → J.Ok F' H' g' → NowX J F' H' a ps' sd' → Same F F' → Env F' σ' ds' → D.nx σ' H') →
  (∀ v d F' H' g' sd' ps', E.rt d g' sd' → J.Ok F' H' g' → NowX J F' H' a ps' sd' → Same F F' → Dt F' v d → D.rt v H') → t D σ H
theorem pureE (fr : JFree J) {F H : Hp} {σ : St} {ps : Pts} {Φ : Dv → G → Prop} {Q : VK} [c : NowS ds a (nowD sd) ds'] (h : WE J ds' g te Φ) (o : J.Ok F H g) (N : NowX J F H a ps sd) (e : Env F σ ds)
    (q : ∀ v d F2 H1 g1, Φ d g1 → Same F F2 → J.Ok F2 H1 g1 → NowX J F2 H1 a ps sd → (∀ n, tupO n d = true → Dt F2 v d) → Q v H1) : te σ H Q := by
  obtain ⟨FN, sF, oN, dN, _, fin⟩ := N.pure fr o
  refine h FN H σ oN (c.h (e.mono sF) dN) Q fun v d F1 H1 g1 h1 o1 t1 d1 => ?_
  obtain ⟨F2, s2, o2, N2, hd, _⟩ := fin F1 H1 g1 o1 t1
  exact q v d F2 H1 g1 h1 s2 o2 N2 fun n hn => hd n v d hn d1
theorem pureT (fr : JFree J) {F H : Hp} {σ : St} {ps : Pts} {Φ : Bool → G → Prop} {Q : Bool → Hp → Prop} [c : NowS ds a (nowD sd) ds'] (h : WT J ds' g tt Φ) (o : J.Ok F H g) (N : NowX J F H a ps sd) (e : Env F σ ds)
    (q : ∀ b F2 H1 g1, Φ b g1 → Same F F2 → J.Ok F2 H1 g1 → NowX J F2 H1 a ps sd → Q b H1) : tt σ H Q := by
  obtain ⟨FN, sF, oN, dN, _, fin⟩ := N.pure fr o
  refine h FN H σ oN (c.h (e.mono sF) dN) Q fun b F1 H1 g1 h1 o1 t1 => ?_
  obtain ⟨F2, s2, o2, N2, _, _⟩ := fin F1 H1 g1 o1 t1
  exact q b F2 H1 g1 h1 s2 o2 N2
theorem wn_next (k : E.nx ds g sd) : WN J a ds g sd tNext E := fun F H σ ps o N e D n r => n σ ds F H g sd ps k o N (Same.refl _) e
theorem wn_seq (h : WN J a ds g sd t { E with nx := fun ds' g' sd' => WN J a ds' g' sd' u E }) : WN J a ds g sd (tSeq t u) E := fun F H σ ps o N e D n r =>
  h F H σ ps o N e { D with nx := u D } (fun σ' ds' F' H' g' sd' ps' h' o' N' s' e' => h' F' H' σ' ps' o' N' e' D (fun σ2 ds2 F2 H2 g2 sd2 ps2 h2 o2 N2 s2 e2 => n σ2 ds2 F2 H2 g2 sd2 ps2 h2 o2 N2 (s'.trans s2) e2)
    (fun v d F2 H2 g2 sd2 ps2 h2 o2 N2 s2 d2 => r v d F2 H2 g2 sd2 ps2 h2 o2 N2 (s'.trans s2) d2)) r
theorem wn_if (fr : JFree J) [c : NowS ds a (nowD sd) ds'] (h : WT J ds' g tt fun b g' => (b = true → WN J a ds g' sd t E) ∧ (b = false → WN J a ds g' sd u E)) : WN J a ds g sd (tIfS tt t u) E := fun F H σ ps o N e D n r =>
  pureT fr h o N e fun b F2 H1 g1 h1 s2 o2 N2 => by
    have fin : ∀ w : TS, WN J a ds g1 sd w E → w D σ H1 := fun w hw => hw F2 H1 σ ps o2 N2 (e.mono s2) D (fun σ3 ds3 F3 H3 g3 sd3 ps3 h3 o3 N3 s3 e3 => n σ3 ds3 F3 H3 g3 sd3 ps3 h3 o3 N3 (s2.trans s3) e3)
      (fun v d F3 H3 g3 sd3 ps3 h3 o3 N3 s3 d3 => r v d F3 H3 g3 sd3 ps3 h3 o3 N3 (s2.trans s3) d3)
    cases b with
    | true => exact fin t (h1.1 rfl)
    | false => exact fin u (h1.2 rfl)
theorem wn_set (fr : JFree J) {i : Nat} {f : Dv → DE} [c : NowS ds a (nowD sd) ds'] [cs : SetF ds i f] (h : WE J ds' g te fun d g' => (∃ n, tupO n d = true) ∧ E.nx (f d) g' sd) : WN J a ds g sd (tAsg te (gName i)) E := fun F H σ ps o N e D n r =>
  pureE fr h o N e fun v d F2 H1 g1 h1 s2 o2 N2 hd => by
    obtain ⟨⟨k, hk⟩, h2⟩ := h1
    refine n _ _ F2 H1 g1 sd ps h2 o2 N2 s2 ?_
    rw [← cs.h]
    exact (e.mono s2).set (hd k hk) i
theorem wn_ret (fr : JFree J) [c : NowS ds a (nowD sd) ds'] (h : WE J ds' g te fun d g' => (∃ n, tupO n d = true) ∧ E.rt d g' sd) : WN J a ds g sd (tRet te) E := fun F H σ ps o N e D n r =>
  pureE fr h o N e fun v d F2 H1 g1 h1 s2 o2 N2 hd => by
    obtain ⟨⟨k, hk⟩, h2⟩ := h1
    exact r v d F2 H1 g1 sd ps h2 o2 N2 s2 (hd k hk)
/-- a number or a word of the state set -/
structure PutN (sd : Sd) (k : Str) (w : V) (sd' : Sd) : Prop where
  kv : ∀ ps, putK (nowV sd ps) (Sum.inr k) w = nowV sd' ps
  e1 : sd'.st.spots = sd.st.spots
  e2 : sd'.st.cells = sd.st.cells
  e3 : sd'.owed = sd.owed
  e4 : sd'.laid = sd.laid
  e5 : sd'.took = sd.took
theorem Pts.ne (ps : Pts) {a : Addr} (nd : (ps.all a).Nodup) : ps.p1 ≠ a ∧ ps.p2 ≠ a ∧ ps.p3 ≠ a ∧ ps.p4 ≠ a ∧ ps.p5 ≠ a ∧ ps.p1 ≠ ps.p2 ∧ ps.p1 ≠ ps.p3 ∧ ps.p1 ≠ ps.p4 ∧ ps.p1 ≠ ps.p5 ∧ ps.p2 ≠ ps.p3 ∧ ps.p2 ≠ ps.p4 ∧ ps.p2 ≠ ps.p5 ∧ ps.p3 ≠ ps.p4 ∧ ps.p3 ≠ ps.p5 ∧ ps.p4 ≠ ps.p5 := by
  simp only [Pts.all, List.nodup_cons, List.mem_cons, List.not_mem_nil, or_false, not_or] at nd
  obtain ⟨⟨a1, a2, a3, a4, a5⟩, ⟨b1, b2, b3, b4⟩, ⟨c1, c2, c3⟩, ⟨d1, d2⟩, e1, _⟩ := nd
  exact ⟨Ne.symm a1, Ne.symm a2, Ne.symm a3, Ne.symm a4, Ne.symm a5, b1, b2, b3, b4, c1, c2, c3, d1, d2, e1⟩
theorem NowX.put {F H : Hp} {ps : Pts} {k : Str} {w : V} {sd' : Sd} (N : NowX J F H a ps sd) (p : PutN sd k w sd') : NowX J F (upd H a (.dK (nowV sd' ps))) a ps sd' := by
  obtain ⟨n1, n2, n3, n4, n5, _⟩ := ps.ne N.nd
  refine ⟨N.nd, N.fn, upd_same, ?_, ?_, ?_, ?_, ?_⟩
  · rw [upd_ne n1, p.e1]
    exact N.h1
  · rw [upd_ne n2, p.e2]
    exact N.h2
  · rw [upd_ne n3, p.e3]
    exact N.h3
  · rw [upd_ne n4, p.e4]
    exact N.h4
  · rw [upd_ne n5, p.e5]
    exact N.h5
def Sc (d : Dv) (w : V) : Prop := ∀ (F : Hp) (v : V), Dt F v d → v = w
theorem sc_int {i : Int} : Sc (.int i) (.int i) := fun F v h => by cases h; rfl
theorem sc_bl {i : Bool} : Sc (.bl i) (.bl i) := fun F v h => by cases h; rfl
theorem sc_non : Sc .non .non := fun F v h => by cases h; rfl
theorem wn_put (fr : JFree J) {i : Nat} {k : Str} [c : NowS ds a (nowD sd) ds'] [cg : GetC ds i (.raw (.ref a))] (h : WE J ds' g te fun d g' => tupO 0 d = true ∧ ∃ w sd', Sc d w ∧ PutN sd k w sd' ∧ E.nx ds g' sd') :
    WN J a ds g sd (sDPut (tVar i) (tC (.str k)) te) E := fun F H σ ps o N e D n r =>
  pureE fr h o N e fun v d F2 H1 g1 h1 s2 o2 N2 hd => by
    obtain ⟨h0, w, sd', hs, hp, h2⟩ := h1
    have ev := hs F2 v (hd 0 h0)
    subst ev
    have e2 := e.mono s2
    obtain ⟨x, hx, dx⟩ := e2.get cg.h
    cases dx
    refine ⟨_, hx, a, _, rfl, .inl ⟨nowV sd ps, Sum.inr k, N2.ha, rfl, by show 12 < sizeLine; decide, rfl⟩, ?_⟩
    rw [hp.kv]
    have fa := N2.fn a (by simp [Pts.all])
    exact n σ ds F2 _ g1 sd' ps h2 (o2.put0 fa.1 fa.2) (N2.put hp) s2 e2
end
end TM

/-! The state's numbers, lists and items set. -/
namespace TM
open PySem L2
theorem put_place {sd : Sd} {i : Int} : PutN sd "place" (.int i) { sd with st := { sd.st with place := i } } := ⟨fun ps => by kernel_rfl, rfl, rfl, rfl, rfl, rfl⟩
theorem put_shut {sd : Sd} {i : Bool} : PutN sd "shut" (.bl i) { sd with st := { sd.st with shut := i } } := ⟨fun ps => by kernel_rfl, rfl, rfl, rfl, rfl, rfl⟩
theorem put_kept {sd : Sd} {i : Option Int} : PutN sd "kept" (optV i) { sd with st := { sd.st with kept := i } } := ⟨fun ps => by kernel_rfl, rfl, rfl, rfl, rfl, rfl⟩
theorem put_beat {sd : Sd} {i : Int} : PutN sd "beat" (.int i) { sd with beat := i } := ⟨fun ps => by kernel_rfl, rfl, rfl, rfl, rfl, rfl⟩
theorem put_crowd {sd : Sd} {i : Int} : PutN sd "crowd" (.int i) { sd with crowd := i } := ⟨fun ps => by kernel_rfl, rfl, rfl, rfl, rfl, rfl⟩
theorem put_pressed {sd : Sd} {i : Int} : PutN sd "pressed" (.int i) { sd with pressed := i } := ⟨fun ps => by kernel_rfl, rfl, rfl, rfl, rfl, rfl⟩
theorem put_ends {sd : Sd} {i : Int} : PutN sd "ends" (.int i) { sd with ends := i } := ⟨fun ps => by kernel_rfl, rfl, rfl, rfl, rfl, rfl⟩
theorem val_spots (sd : Sd) (ps : Pts) : valV (nowV sd ps) (Sum.inr "spots") = some (.ref ps.p1) := by kernel_rfl
theorem val_cells (sd : Sd) (ps : Pts) : valV (nowV sd ps) (Sum.inr "cells") = some (.ref ps.p2) := by kernel_rfl
theorem val_owed (sd : Sd) (ps : Pts) : valV (nowV sd ps) (Sum.inr "owed") = some (.ref ps.p3) := by kernel_rfl
theorem val_laid (sd : Sd) (ps : Pts) : valV (nowV sd ps) (Sum.inr "laid") = some (.ref ps.p4) := by kernel_rfl
theorem val_took (sd : Sd) (ps : Pts) : valV (nowV sd ps) (Sum.inr "took") = some (.ref ps.p5) := by kernel_rfl
theorem putp_owed (sd : Sd) (ps : Pts) (p : Addr) (l : List Ow) : putK (nowV sd ps) (Sum.inr "owed") (.ref p) = nowV { sd with owed := l } { ps with p3 := p } := by kernel_rfl
theorem putp_laid (sd : Sd) (ps : Pts) (p : Addr) (l : List La) : putK (nowV sd ps) (Sum.inr "laid") (.ref p) = nowV { sd with laid := l } { ps with p4 := p } := by kernel_rfl

section
variable {G : Type} {J : JT G} {a : Addr} {ds ds' : DE} {g : G} {sd : Sd} {t u : TS} {E : EsN G} {te : TE} {tt : TT} {K : PySem.W.Frag} {F H : Hp} {ps : Pts}
theorem NowX.set_spots (N : NowX J F H a ps sd) (l : List Int) : NowX J F (upd H ps.p1 (.lst (l.map V.int))) a ps { sd with st := { sd.st with spots := l } } := by
  obtain ⟨n1, n2, n3, n4, n5, m12, m13, m14, m15, m23, m24, m25, m34, m35, m45⟩ := ps.ne N.nd
  refine ⟨N.nd, N.fn, ?_, ?_, ?_, ?_, ?_, ?_⟩
  · rw [upd_ne (n1.symm)]
    exact N.ha
  · exact upd_same
  · rw [upd_ne (m12.symm)]
    exact N.h2
  · rw [upd_ne (m13.symm)]
    exact N.h3
  · rw [upd_ne (m14.symm)]
    exact N.h4
  · rw [upd_ne (m15.symm)]
    exact N.h5
theorem NowX.set_cells (N : NowX J F H a ps sd) (l : List Int) : NowX J F (upd H ps.p2 (.lst (l.map V.int))) a ps { sd with st := { sd.st with cells := l } } := by
  obtain ⟨n1, n2, n3, n4, n5, m12, m13, m14, m15, m23, m24, m25, m34, m35, m45⟩ := ps.ne N.nd
  refine ⟨N.nd, N.fn, ?_, ?_, ?_, ?_, ?_, ?_⟩
  · rw [upd_ne (n2.symm)]
    exact N.ha
  · rw [upd_ne (m12)]
    exact N.h1
  · exact upd_same
  · rw [upd_ne (m23.symm)]
    exact N.h3
  · rw [upd_ne (m24.symm)]
    exact N.h4
  · rw [upd_ne (m25.symm)]
    exact N.h5
theorem NowX.set_took (N : NowX J F H a ps sd) (l : List Int) : NowX J F (upd H ps.p5 (.lst (l.map V.int))) a ps { sd with took := l } := by
  obtain ⟨n1, n2, n3, n4, n5, m12, m13, m14, m15, m23, m24, m25, m34, m35, m45⟩ := ps.ne N.nd
  refine ⟨N.nd, N.fn, ?_, ?_, ?_, ?_, ?_, ?_⟩
  · rw [upd_ne (n5.symm)]
    exact N.ha
  · rw [upd_ne (m15)]
    exact N.h1
  · rw [upd_ne (m25)]
    exact N.h2
  · rw [upd_ne (m35)]
    exact N.h3
  · rw [upd_ne (m45)]
    exact N.h4
  · exact upd_same
theorem NowX.set_owed (N : NowX J F H a ps sd) {vs : List V} {l : List Ow} (d : DtAll F vs (l.map owD)) : NowX J F (upd H ps.p3 (.lst vs)) a ps { sd with owed := l } := by
  obtain ⟨n1, n2, n3, n4, n5, m12, m13, m14, m15, m23, m24, m25, m34, m35, m45⟩ := ps.ne N.nd
  refine ⟨N.nd, N.fn, ?_, ?_, ?_, ?_, ?_, ?_⟩
  · rw [upd_ne (n3.symm)]
    exact N.ha
  · rw [upd_ne (m13)]
    exact N.h1
  · rw [upd_ne (m23)]
    exact N.h2
  · exact ⟨vs, upd_same, d⟩
  · rw [upd_ne (m34.symm)]
    exact N.h4
  · rw [upd_ne (m35.symm)]
    exact N.h5
theorem NowX.set_laid (N : NowX J F H a ps sd) {vs : List V} {l : List La} (d : DtAll F vs (l.map laD)) : NowX J F (upd H ps.p4 (.lst vs)) a ps { sd with laid := l } := by
  obtain ⟨n1, n2, n3, n4, n5, m12, m13, m14, m15, m23, m24, m25, m34, m35, m45⟩ := ps.ne N.nd
  refine ⟨N.nd, N.fn, ?_, ?_, ?_, ?_, ?_, ?_⟩
  · rw [upd_ne (n4.symm)]
    exact N.ha
  · rw [upd_ne (m14)]
    exact N.h1
  · rw [upd_ne (m24)]
    exact N.h2
  · rw [upd_ne (m34)]
    exact N.h3
  · exact ⟨vs, upd_same, d⟩
  · rw [upd_ne (m45.symm)]
    exact N.h5
theorem wn_app_owed (fr : JFree J) {i : Nat} [c : NowS ds a (nowD sd) ds'] [cg : GetC ds i (.raw (.ref a))] (hl : sd.owed.length ≤ 50000) (h : WE J ds' g te fun d g' => ∃ x : Ow, d = owD x ∧ E.nx ds g' { sd with owed := sd.owed ++ [x] }) :
    WN J a ds g sd (tDrop (tBM K "list" rAppend (tDGet (tVar i) (tC (.str "owed"))) (tCons te tNil))) E := fun F H σ ps o N e D n r => by
  obtain ⟨y, hy, dy⟩ := e.get cg.h
  cases dy
  have fp := N.fn ps.p3 (by simp [Pts.all])
  refine ⟨_, hy, a, _, rfl, .inl ⟨nowV sd ps, Sum.inr "owed", .inl N.ha, rfl, (val_owed sd ps).symm⟩, ?_⟩
  have fp2 : ∀ {F2 H1 : Hp}, NowX J F2 H1 a ps sd → F2 ps.p3 = none ∧ ps.p3 ∉ J.M := fun N => N.fn ps.p3 (by simp [Pts.all])
  obtain ⟨l, hl2⟩ : ∃ vs, H ps.p3 = some (.lst vs) := by
    first | exact ⟨_, N.h5⟩ | (obtain ⟨vs, h, _⟩ := N.h3; exact ⟨vs, h⟩) | (obtain ⟨vs, h, _⟩ := N.h4; exact ⟨vs, h⟩)
  refine ⟨.inl ⟨rfl, l, .inl (.inl hl2)⟩, pureE fr h o N e fun v d F2 H1 g1 h1 s2 o2 N2 hd => ?_⟩
  obtain ⟨x, rfl, h2⟩ := h1
  have fp := fp2 N2
  obtain ⟨vs, hv, dv⟩ := N2.h3
  have dx := hd 1 (by rfl)
  refine ⟨ps.p3, vs, v, rfl, rfl, hv, sz1001 (by rw [dv.length, List.length_map]; omega), ?_⟩
  refine n σ ds F2 _ g1 _ ps h2 (o2.put0 fp.1 fp.2) (N2.set_owed ?_) s2 (e.mono s2)
  rw [List.map_append]
  exact dv.append (.cons dx .nil)
theorem wn_app_laid (fr : JFree J) {i : Nat} [c : NowS ds a (nowD sd) ds'] [cg : GetC ds i (.raw (.ref a))] (hl : sd.laid.length ≤ 50000) (h : WE J ds' g te fun d g' => ∃ x : La, d = laD x ∧ E.nx ds g' { sd with laid := sd.laid ++ [x] }) :
    WN J a ds g sd (tDrop (tBM K "list" rAppend (tDGet (tVar i) (tC (.str "laid"))) (tCons te tNil))) E := fun F H σ ps o N e D n r => by
  obtain ⟨y, hy, dy⟩ := e.get cg.h
  cases dy
  have fp := N.fn ps.p4 (by simp [Pts.all])
  refine ⟨_, hy, a, _, rfl, .inl ⟨nowV sd ps, Sum.inr "laid", .inl N.ha, rfl, (val_laid sd ps).symm⟩, ?_⟩
  have fp2 : ∀ {F2 H1 : Hp}, NowX J F2 H1 a ps sd → F2 ps.p4 = none ∧ ps.p4 ∉ J.M := fun N => N.fn ps.p4 (by simp [Pts.all])
  obtain ⟨l, hl2⟩ : ∃ vs, H ps.p4 = some (.lst vs) := by
    first | exact ⟨_, N.h5⟩ | (obtain ⟨vs, h, _⟩ := N.h3; exact ⟨vs, h⟩) | (obtain ⟨vs, h, _⟩ := N.h4; exact ⟨vs, h⟩)
  refine ⟨.inl ⟨rfl, l, .inl (.inl hl2)⟩, pureE fr h o N e fun v d F2 H1 g1 h1 s2 o2 N2 hd => ?_⟩
  obtain ⟨x, rfl, h2⟩ := h1
  have fp := fp2 N2
  obtain ⟨vs, hv, dv⟩ := N2.h4
  have dx := hd 1 (by rfl)
  refine ⟨ps.p4, vs, v, rfl, rfl, hv, sz1001 (by rw [dv.length, List.length_map]; omega), ?_⟩
  refine n σ ds F2 _ g1 _ ps h2 (o2.put0 fp.1 fp.2) (N2.set_laid ?_) s2 (e.mono s2)
  rw [List.map_append]
  exact dv.append (.cons dx .nil)
theorem wn_app_took (fr : JFree J) {i : Nat} [c : NowS ds a (nowD sd) ds'] [cg : GetC ds i (.raw (.ref a))] (hl : sd.took.length ≤ 50000) (h : WE J ds' g te fun d g' => ∃ x : Int, d = .int x ∧ E.nx ds g' { sd with took := sd.took ++ [x] }) :
    WN J a ds g sd (tDrop (tBM K "list" rAppend (tDGet (tVar i) (tC (.str "took"))) (tCons te tNil))) E := fun F H σ ps o N e D n r => by
  obtain ⟨y, hy, dy⟩ := e.get cg.h
  cases dy
  have fp := N.fn ps.p5 (by simp [Pts.all])
  refine ⟨_, hy, a, _, rfl, .inl ⟨nowV sd ps, Sum.inr "took", .inl N.ha, rfl, (val_took sd ps).symm⟩, ?_⟩
  have fp2 : ∀ {F2 H1 : Hp}, NowX J F2 H1 a ps sd → F2 ps.p5 = none ∧ ps.p5 ∉ J.M := fun N => N.fn ps.p5 (by simp [Pts.all])
  obtain ⟨l, hl2⟩ : ∃ vs, H ps.p5 = some (.lst vs) := by
    first | exact ⟨_, N.h5⟩ | (obtain ⟨vs, h, _⟩ := N.h3; exact ⟨vs, h⟩) | (obtain ⟨vs, h, _⟩ := N.h4; exact ⟨vs, h⟩)
  refine ⟨.inl ⟨rfl, l, .inl (.inl hl2)⟩, pureE fr h o N e fun v d F2 H1 g1 h1 s2 o2 N2 hd => ?_⟩
  obtain ⟨x, rfl, h2⟩ := h1
  have fp := fp2 N2
  have ht := N2.h5
  have ev : v = .int x := by
    have := hd 0 rfl
    cases this
    rfl
  subst ev
  refine ⟨ps.p5, _, .int x, rfl, rfl, N2.h5, sz1001 (by rw [List.length_map]; omega), ?_⟩
  have e1 : sd.took.map V.int ++ [V.int x] = (sd.took ++ [x]).map V.int := by rw [List.map_append]; rfl
  rw [e1]
  exact n σ ds F2 _ g1 _ ps h2 (o2.put0 fp.1 fp.2) (N2.set_took _) s2 (e.mono s2)
end
end TM

/-! A list that is laid new into the state; an item of its lists set. -/
namespace TM
open PySem L2
section
variable {G : Type} {J : JT G} {ds : DE} {g : G} {Φ : List Dv → G → Prop} {te : TE} {tt : TT} {K : PySem.W.Frag}
/-- a run that lays a new list -/
def WEf (J : JT G) (ds : DE) (g : G) (te : TE) (Φ : List Dv → G → Prop) : Prop :=
  ∀ (F H : Hp) (σ : St), J.Ok F H g → Env F σ ds → ∀ Q : VK, (∀ p xs vs F' H' g', Φ xs g' → J.Ok F' H' g' → Tr J F H F' H' → H p = none → F' p = some (.lst vs) → DtAll F' vs xs → Q (.ref p) H') → te σ H Q
theorem wf_lc {wi : TI} {tg : TG} {vs : List Nat} {f : DE → Dv → Option DE} (ht : TgOk tg vs f)
    (h : WI J ds g wi fun xs g1 => xs.length ≤ 50000 ∧ ∃ I : Nat → List Dv → G → Prop, I 0 [] g1 ∧
      (∀ i x acc g', xs[i]? = some x → I i acc g' → ∃ ds2, f (wipeD ds vs) x = some ds2 ∧ WT J ds2 g' tt fun b g2 => (b = true → WE J ds2 g2 te fun d g3 => I (i + 1) (acc ++ [d]) g3) ∧ (b = false → I (i + 1) acc g2)) ∧
      (∀ acc g', I xs.length acc g' → Φ acc g')) : WEf J ds g (tLc wi tg tt te vs) Φ := fun F H σ o e Q q =>
  h F H σ o e _ fun it xs F1 H1 g1 h1 o1 t1 sr => by
    obtain ⟨hz, I, h0, hs, hd⟩ := h1
    intro p hp
    have np := o1.nomem hp
    have fp := o1.fnone hp
    have hp0 : H p = none := by
      cases z : H p with
      | none => rfl
      | some u => exact absurd hp (t1.k p (by rw [z]; exact fun w => nomatch w))
    have tput : ∀ {F' H' : Hp} (u : HO), Tr J F1 H1 F' H' → Tr J F1 H1 F' (upd H' p u) := fun {F' H'} u t => by
      refine ⟨t.f, fun a w ha m => ?_, t.n, fun a ha => ?_⟩
      · rw [upd_ne (ne_of_none ha hp)]; exact t.h a w ha m
      · have ne : a ≠ p := fun z => ha (by rw [z]; exact hp)
        rw [upd_ne ne]; exact t.k a ha
    refine ⟨fun i m H' => m = xs.length - i ∧ i ≤ xs.length ∧ ∃ vs' acc F' g', acc.length ≤ i ∧ I i acc g' ∧ J.Ok F' H' g' ∧ Tr J F1 H1 F' H' ∧ H' p = some (.lst vs') ∧ F' p = none ∧ DtAll F' vs' acc,
      ⟨xs.length, by simp, Nat.zero_le _, [], [], F1, g1, Nat.le_refl _, h0, o1.put0 fp np, tput _ Tr.refl, upd_same, fp, .nil⟩, ?_⟩
    rintro i m H' ⟨rfl, hi, ws, acc, F', g', hl, hI, o', t', hp', fp', da⟩
    by_cases hlt : i < xs.length
    · refine .inr ⟨sr.go F' H' i t'.f o'.ex hlt, fun H2 => ∃ vs' acc F2 g2, acc.length ≤ i + 1 ∧ I (i + 1) acc g2 ∧ J.Ok F2 H2 g2 ∧ Tr J F1 H1 F2 H2 ∧ H2 p = some (.lst vs') ∧ F2 p = none ∧ DtAll F2 vs' acc,
        fun H2 z => ⟨xs.length - (i + 1), by omega, rfl, hlt, z⟩, fun v H2 y => ?_⟩
      obtain ⟨rfl, x, hx, dx⟩ := sr.yld F' H' i v H2 t'.f o'.ex y hlt
      obtain ⟨ds2, hf, hw⟩ := hs i x acc g' hx hI
      refine ht.go G J g' F' H2 σ ds ds2 v x o' (e.mono (t1.f.trans t'.f)) dx hf _ fun σ' hσ e' => ?_
      refine ⟨hσ, hw F' H2 σ' o' e' _ fun b F3 H3 g3 h3 o3 t3 => ?_⟩
      have hp3 : H3 p = some (.lst ws) := t3.h p _ hp' np
      have fp3 : F3 p = none := t3.n p (by rw [hp']; exact fun z => nomatch z) fp'
      cases b with
      | false => exact ⟨ws, acc, F3, g3, by omega, h3.2 rfl, o3, t'.trans t3, hp3, fp3, da.mono t3.f⟩
      | true =>
        refine h3.1 rfl F3 H3 σ' o3 (e'.mono t3.f) _ fun w d F4 H4 g4 h4 o4 t4 d4 => ?_
        have hp4 : H4 p = some (.lst ws) := t4.h p _ hp3 np
        have fp4 : F4 p = none := t4.n p (by rw [hp3]; exact fun z => nomatch z) fp3
        have hlen : ws.length < 100000 := by rw [da.length]; omega
        exact ⟨ws, hp4, sz1001 hlen, ws ++ [w], acc ++ [d], F4, g4, by simp; omega, h4, o4.put0 fp4 np, tput _ ((t'.trans t3).trans t4), upd_same, fp4, (da.mono (t3.trans t4).f).append (.cons d4 .nil)⟩
    · have ei : i = xs.length := by omega
      subst ei
      have e2 : upd H' p (.lst ws) = H' := by
        funext a
        by_cases ea : a = p
        · subst ea; rw [upd_same]; exact hp'.symm
        · rw [upd_ne ea]
      have o2 := o'.put (p := p) (o := .lst ws) fp' np
      have t2 := Tr.put (o := .lst ws) t' hp fp' (by rw [hp']; exact fun z => nomatch z)
      rw [e2] at o2 t2
      exact .inl ⟨sr.stop F' H' t'.f o'.ex, q p acc ws _ H' g' (hd acc g' hI) o2 (t1.trans t2) hp0 upd_same (da.mono fun a u ha => by rw [upd_ne (ne_of_none ha fp')]; exact ha)⟩
variable {wi : TI} {tg : TG} {vs : List Nat}
theorem wf_lcX {f : DE → Dv → Option DE} (ht : TgOk tg vs f)
    (h : WI J ds g wi fun xs g1 => ∃ (α : Type) (l : List α) (enc : α → Dv) (p : α → Bool) (v : α → Dv), xs = l.map enc ∧ l.length ≤ 50000 ∧
      (∀ r, r ∈ l → ∃ ds2, f (wipeD ds vs) (enc r) = some ds2 ∧ WT J ds2 g1 tt fun b g2 => (b = true → WE J ds2 g2 te fun d g3 => p r = true ∧ d = v r ∧ g3 = g1) ∧ (b = false → p r = false ∧ g2 = g1)) ∧
      Φ ((l.filter p).map v) g1) : WEf J ds g (tLc wi tg tt te vs) Φ := wf_lc ht fun F H σ o e R q => h F H σ o e R fun it xs F' H' g' hx o' t' s' => q it xs F' H' g' (by
  obtain ⟨α, l, enc, p, v, rfl, hl, hs, k⟩ := hx
  refine ⟨by rw [List.length_map]; exact hl, fun i acc g2 => g2 = g' ∧ acc = ((l.take i).filter p).map v, ⟨rfl, by simp⟩, ?_, ?_⟩
  · rintro i x acc g2 hi ⟨rfl, rfl⟩
    rw [List.getElem?_map] at hi
    cases hr : l[i]? with
    | none => rw [hr] at hi; cases hi
    | some r =>
      rw [hr] at hi
      obtain rfl := Option.some.inj hi
      obtain ⟨ds2, hf, hw⟩ := hs r (ne_nil hr)
      refine ⟨ds2, hf, fun F H σ o e Q q => hw F H σ o e Q fun b F' H' g3 h3 o3 t3 => q b F' H' g3 ⟨fun eb => ?_, fun eb => ?_⟩ o3 t3⟩
      · refine (h3.1 eb).imp fun d g4 h4 => ?_
        obtain ⟨h5, h6, h7⟩ := h4
        subst h6
        subst h7
        refine ⟨rfl, ?_⟩
        rw [List.take_add_one, hr, List.filter_append, List.map_append]
        simp [h5]
      · obtain ⟨h5, h7⟩ := h3.2 eb
        subst h7
        refine ⟨rfl, ?_⟩
        rw [List.take_add_one, hr, List.filter_append, List.map_append]
        simp [h5]
  · rintro acc g2 ⟨rfl, rfl⟩
    rw [List.length_map, List.take_length]
    exact k) o' t' s'
theorem wf_sl {tl th : TO} (h : WE J ds g te fun x g1 => ∃ xs, x = .lst xs ∧ WO J ds g1 tl fun l g2 => WO J ds g2 th fun u g3 => Φ (cutD xs l u) g3) : WEf J ds g (tSl (rSlU K) te tl th) Φ := fun F H σ o e Q q =>
  h F H σ o e _ fun v x F1 H1 g1 h1 o1 t1 d1 => by
    obtain ⟨xs, rfl, h1⟩ := h1
    refine h1 F1 H1 σ o1 (e.mono t1.f) _ fun l F2 H2 g2 h2 o2 t2 => h2 F2 H2 σ o2 (e.mono (t1.trans t2).f) _ fun u F3 H3 g3 h3 o3 t3 => ?_
    have d3 := d1.mono (t2.trans t3).f
    cases d3 with
    | @lst a2 vs2 _ ha da =>
      refine .inl ⟨_, _, rfl, .inl (.inl (o3.ex _ _ ha)), fun p hp => ?_⟩
      have hp0 : H p = none := by
        cases z : H p with
        | none => rfl
        | some u => exact absurd hp (((t1.trans t2).trans t3).k p (by rw [z]; exact fun w => nomatch w))
      have ta := Tr.alloc (J := J) (o := .lst (cutV vs2 l u)) o3 hp
      exact q p _ _ _ _ g3 h3 (o3.alloc hp) (((t1.trans t2).trans t3).trans ta) hp0 upd_same ((da.cut l u).mono ta.f)
end
section
variable {G : Type} {J : JT G} {a : Addr} {ds ds' : DE} {g : G} {sd : Sd} {t u : TS} {E : EsN G} {te : TE} {tt : TT} {K : PySem.W.Frag} {F H : Hp} {ps : Pts}
theorem wn_new_owed (fr : JFree J) {i : Nat} [c : NowS ds a (nowD sd) ds'] [cg : GetC ds i (.raw (.ref a))] (h : WEf J ds' g te fun xs g' => ∃ l : List Ow, xs = l.map owD ∧ E.nx ds g' { sd with owed := l }) :
    WN J a ds g sd (sDPut (tVar i) (tC (.str "owed")) te) E := fun F H σ ps o N e D n r => by
  obtain ⟨FN, sF, oN, dN, _, fin⟩ := N.pure fr o
  refine h FN H σ oN (c.h (e.mono sF) dN) _ fun p xs vs F1 H1 g1 h1 o1 t1 hp0 hp1 d1 => ?_
  obtain ⟨l, rfl, h2⟩ := h1
  obtain ⟨F2, s2, o2, N2, hd, hx⟩ := fin F1 H1 g1 o1 t1
  have e2 := e.mono s2
  obtain ⟨y, hy, dy⟩ := e2.get cg.h
  cases dy
  have hp : p ∉ ps.all a := fun m => by
    rcases N.lstOrDict m with ⟨vs, h⟩ | ⟨kvs, h⟩ <;> rw [hp0] at h <;> cases h
  have Fp : F p = none := by
    cases z : F p with
    | none => rfl
    | some u => rw [o.ex _ _ z] at hp0; cases hp0
  have H1p : H1 p = some (.lst vs) := o1.ex _ _ hp1
  have pM : p ∉ J.M := fun m => by
    rw [(o1.mu p m).1] at hp1
    cases hp1
  have f3 : ∀ x, x ≠ p → (fun x => if x = p then none else F2 x) x = F2 x := fun x m => if_neg m
  have s3 : Same F (fun x => if x = p then none else F2 x) := fun x u hx => by
    have m : x ≠ p := fun m => by
      rw [m, Fp] at hx
      cases hx
    rw [f3 x m]
    exact s2 x u hx
  have s4 : Same (fun x => if x = p then none else F2 x) F2 := fun x u hx => by
    by_cases m : x = p
    · have hx : (if x = p then none else F2 x) = some u := hx
      rw [if_pos m] at hx
      cases hx
    · rw [← f3 x m]
      exact hx
  have tp : ∀ x xs, Rd F2 x (.tup xs) → (fun x => if x = p then none else F2 x) x = F2 x := fun x xs hx' => f3 x fun m => by
    subst m
    rcases hx' with q | ⟨ob, q⟩ <;> rw [hx x hp, hp1] at q <;> cases q
  have o3 : J.Ok (fun x => if x = p then none else F2 x) H1 g1 := ⟨s4.trans o2.ex, fun m hm => ⟨by
    by_cases q : m = p
    · exact if_pos q
    · exact (f3 m q).trans (o2.mu m hm).1, (o2.mu m hm).2⟩, fr.h tp o2.c⟩
  have hide : ∀ n v d, tupO n d = true → Dt F2 v d → Dt (fun x => if x = p then none else F2 x) v d := fun n v d hn => dt_hide tp n v d hn
  have hideL : ∀ {α : Type} (enc : α → Dv) (n : Nat) (hn : ∀ x, tupO n (enc x) = true) (l : List α) (vs : List V), DtAll F2 vs (l.map enc) → DtAll (fun x => if x = p then none else F2 x) vs (l.map enc) := fun enc n hn l vs h =>
    dt_hideAll (n := n) (fun v d => hide n v d) (by rw [List.all_map, List.all_eq_true]; exact fun x _ => hn x) h
  have hide1 : ∀ {α : Type} (enc : α → Dv) (n : Nat) (hn : ∀ x, tupO n (enc x) = true) (l : List α) (vs : List V), DtAll F1 vs (l.map enc) → DtAll F2 vs (l.map enc) := fun enc n hn l vs h =>
    dt_hideAll (n := n) (fun v d => hd n v d) (by rw [List.all_map, List.all_eq_true]; exact fun x _ => hn x) h
  obtain ⟨n1, n2, n3, n4, n5, m12, m13, m14, m15, m23, m24, m25, m34, m35, m45⟩ := ps.ne N.nd
  have hq : ∀ x, x ∈ ps.all a → x ≠ p := fun x hx z => hp (by rw [← z]; exact hx)
  have q0 := hq a (by simp [Pts.all])
  have q1 := hq ps.p1 (by simp [Pts.all])
  have q2 := hq ps.p2 (by simp [Pts.all])
  have q3 := hq ps.p3 (by simp [Pts.all])
  have q4 := hq ps.p4 (by simp [Pts.all])
  have q5 := hq ps.p5 (by simp [Pts.all])
  have N3 : NowX J (fun x => if x = p then none else F2 x) (upd H1 a (.dK (nowV { sd with owed := l } { ps with p3 := p }))) a { ps with p3 := p } { sd with owed := l } := by
    refine ⟨?_, ?_, upd_same, ?_, ?_, ?_, ?_, ?_⟩
    · simp only [Pts.all, List.nodup_cons, List.mem_cons, List.not_mem_nil, or_false, not_or]
      refine ⟨⟨?_, ?_, ?_, ?_, ?_⟩, ⟨?_, ?_, ?_, ?_⟩, ⟨?_, ?_, ?_⟩, ⟨?_, ?_⟩, ?_, ?_⟩ <;> first | assumption | (apply Ne.symm; assumption) | (exact not_false) | exact ⟨not_false, List.nodup_nil⟩
    · intro x hx'
      simp only [Pts.all, List.mem_cons, List.not_mem_nil, or_false] at hx'
      by_cases z : x = p
      · exact ⟨if_pos z, by rw [z]; exact pM⟩
      · have m : x ∈ ps.all a := by
          simp only [Pts.all, List.mem_cons, List.not_mem_nil, or_false]
          rcases hx' with h | h | h | h | h | h <;> simp [h] <;> simp [h] at z
        exact ⟨(f3 x z).trans (N2.fn x m).1, (N2.fn x m).2⟩
    · rw [upd_ne n1]
      exact N2.h1
    · rw [upd_ne n2]
      exact N2.h2
    · exact ⟨vs, by rw [upd_ne (fun z => q0 z.symm)]; exact H1p, hideL owD 1 (fun _ => rfl) l vs (hide1 owD 1 (fun _ => rfl) l vs d1)⟩
    · obtain ⟨ws, h4, d4⟩ := N2.h4
      exact ⟨ws, by rw [upd_ne n4]; exact h4, hideL laD 1 (fun _ => rfl) _ ws d4⟩
    · rw [upd_ne n5]
      exact N2.h5
  refine ⟨_, hy, a, _, rfl, .inl ⟨nowV sd ps, Sum.inr "owed", N2.ha, rfl, by show 12 < sizeLine; decide, rfl⟩, ?_⟩
  rw [putp_owed sd ps p l]
  have fa := N2.fn a (by simp [Pts.all])
  have e3 : Env (fun x => if x = p then none else F2 x) σ ds := e.mono s3
  exact n σ ds _ _ g1 _ _ h2 (o3.put0 ((f3 a q0).trans fa.1) fa.2) N3 s3 e3
theorem wn_new_laid (fr : JFree J) {i : Nat} [c : NowS ds a (nowD sd) ds'] [cg : GetC ds i (.raw (.ref a))] (h : WEf J ds' g te fun xs g' => ∃ l : List La, xs = l.map laD ∧ E.nx ds g' { sd with laid := l }) :
    WN J a ds g sd (sDPut (tVar i) (tC (.str "laid")) te) E := fun F H σ ps o N e D n r => by
  obtain ⟨FN, sF, oN, dN, _, fin⟩ := N.pure fr o
  refine h FN H σ oN (c.h (e.mono sF) dN) _ fun p xs vs F1 H1 g1 h1 o1 t1 hp0 hp1 d1 => ?_
  obtain ⟨l, rfl, h2⟩ := h1
  obtain ⟨F2, s2, o2, N2, hd, hx⟩ := fin F1 H1 g1 o1 t1
  have e2 := e.mono s2
  obtain ⟨y, hy, dy⟩ := e2.get cg.h
  cases dy
  have hp : p ∉ ps.all a := fun m => by
    rcases N.lstOrDict m with ⟨vs, h⟩ | ⟨kvs, h⟩ <;> rw [hp0] at h <;> cases h
  have Fp : F p = none := by
    cases z : F p with
    | none => rfl
    | some u => rw [o.ex _ _ z] at hp0; cases hp0
  have H1p : H1 p = some (.lst vs) := o1.ex _ _ hp1
  have pM : p ∉ J.M := fun m => by
    rw [(o1.mu p m).1] at hp1
    cases hp1
  have f3 : ∀ x, x ≠ p → (fun x => if x = p then none else F2 x) x = F2 x := fun x m => if_neg m
  have s3 : Same F (fun x => if x = p then none else F2 x) := fun x u hx => by
    have m : x ≠ p := fun m => by
      rw [m, Fp] at hx
      cases hx
    rw [f3 x m]
    exact s2 x u hx
  have s4 : Same (fun x => if x = p then none else F2 x) F2 := fun x u hx => by
    by_cases m : x = p
    · have hx : (if x = p then none else F2 x) = some u := hx
      rw [if_pos m] at hx
      cases hx
    · rw [← f3 x m]
      exact hx
  have tp : ∀ x xs, Rd F2 x (.tup xs) → (fun x => if x = p then none else F2 x) x = F2 x := fun x xs hx' => f3 x fun m => by
    subst m
    rcases hx' with q | ⟨ob, q⟩ <;> rw [hx x hp, hp1] at q <;> cases q
  have o3 : J.Ok (fun x => if x = p then none else F2 x) H1 g1 := ⟨s4.trans o2.ex, fun m hm => ⟨by
    by_cases q : m = p
    · exact if_pos q
    · exact (f3 m q).trans (o2.mu m hm).1, (o2.mu m hm).2⟩, fr.h tp o2.c⟩
  have hide : ∀ n v d, tupO n d = true → Dt F2 v d → Dt (fun x => if x = p then none else F2 x) v d := fun n v d hn => dt_hide tp n v d hn
  have hideL : ∀ {α : Type} (enc : α → Dv) (n : Nat) (hn : ∀ x, tupO n (enc x) = true) (l : List α) (vs : List V), DtAll F2 vs (l.map enc) → DtAll (fun x => if x = p then none else F2 x) vs (l.map enc) := fun enc n hn l vs h =>
    dt_hideAll (n := n) (fun v d => hide n v d) (by rw [List.all_map, List.all_eq_true]; exact fun x _ => hn x) h
  have hide1 : ∀ {α : Type} (enc : α → Dv) (n : Nat) (hn : ∀ x, tupO n (enc x) = true) (l : List α) (vs : List V), DtAll F1 vs (l.map enc) → DtAll F2 vs (l.map enc) := fun enc n hn l vs h =>
    dt_hideAll (n := n) (fun v d => hd n v d) (by rw [List.all_map, List.all_eq_true]; exact fun x _ => hn x) h
  obtain ⟨n1, n2, n3, n4, n5, m12, m13, m14, m15, m23, m24, m25, m34, m35, m45⟩ := ps.ne N.nd
  have hq : ∀ x, x ∈ ps.all a → x ≠ p := fun x hx z => hp (by rw [← z]; exact hx)
  have q0 := hq a (by simp [Pts.all])
  have q1 := hq ps.p1 (by simp [Pts.all])
  have q2 := hq ps.p2 (by simp [Pts.all])
  have q3 := hq ps.p3 (by simp [Pts.all])
  have q4 := hq ps.p4 (by simp [Pts.all])
  have q5 := hq ps.p5 (by simp [Pts.all])
  have N3 : NowX J (fun x => if x = p then none else F2 x) (upd H1 a (.dK (nowV { sd with laid := l } { ps with p4 := p }))) a { ps with p4 := p } { sd with laid := l } := by
    refine ⟨?_, ?_, upd_same, ?_, ?_, ?_, ?_, ?_⟩
    · simp only [Pts.all, List.nodup_cons, List.mem_cons, List.not_mem_nil, or_false, not_or]
      refine ⟨⟨?_, ?_, ?_, ?_, ?_⟩, ⟨?_, ?_, ?_, ?_⟩, ⟨?_, ?_, ?_⟩, ⟨?_, ?_⟩, ?_, ?_⟩ <;> first | assumption | (apply Ne.symm; assumption) | (exact not_false) | exact ⟨not_false, List.nodup_nil⟩
    · intro x hx'
      simp only [Pts.all, List.mem_cons, List.not_mem_nil, or_false] at hx'
      by_cases z : x = p
      · exact ⟨if_pos z, by rw [z]; exact pM⟩
      · have m : x ∈ ps.all a := by
          simp only [Pts.all, List.mem_cons, List.not_mem_nil, or_false]
          rcases hx' with h | h | h | h | h | h <;> simp [h] <;> simp [h] at z
        exact ⟨(f3 x z).trans (N2.fn x m).1, (N2.fn x m).2⟩
    · rw [upd_ne n1]
      exact N2.h1
    · rw [upd_ne n2]
      exact N2.h2
    · obtain ⟨ws, h3, d3⟩ := N2.h3
      exact ⟨ws, by rw [upd_ne n3]; exact h3, hideL owD 1 (fun _ => rfl) _ ws d3⟩
    · exact ⟨vs, by rw [upd_ne (fun z => q0 z.symm)]; exact H1p, hideL laD 1 (fun _ => rfl) l vs (hide1 laD 1 (fun _ => rfl) l vs d1)⟩
    · rw [upd_ne n5]
      exact N2.h5
  refine ⟨_, hy, a, _, rfl, .inl ⟨nowV sd ps, Sum.inr "laid", N2.ha, rfl, by show 12 < sizeLine; decide, rfl⟩, ?_⟩
  rw [putp_laid sd ps p l]
  have fa := N2.fn a (by simp [Pts.all])
  have e3 : Env (fun x => if x = p then none else F2 x) σ ds := e.mono s3
  exact n σ ds _ _ g1 _ _ h2 (o3.put0 ((f3 a q0).trans fa.1) fa.2) N3 s3 e3

/-- now[k][j] = w -/
theorem wn_item (fr : JFree J) {i : Nat} {tx ti : TE} [c : NowS ds a (nowD sd) ds'] [cg : GetC ds i (.raw (.ref a))] (h : WE J ds' g te fun v g1 => ∃ w, v = .int w ∧ WE J ds' g1 tx fun k g2 =>
      (k = .str "spots" ∧ WE J ds' g2 ti fun ix g3 => ∃ j : Nat, ix = .int (j : Int) ∧ j < sd.st.spots.length ∧ E.nx ds g3 { sd with st := { sd.st with spots := sd.st.spots.set j w } }) ∨
      (k = .str "cells" ∧ WE J ds' g2 ti fun ix g3 => ∃ j : Nat, ix = .int (j : Int) ∧ j < sd.st.cells.length ∧ E.nx ds g3 { sd with st := { sd.st with cells := sd.st.cells.set j w } })) :
    WN J a ds g sd (tAsg te (gSub (tDGet (tVar i) tx) ti L2.rSetL)) E := fun F H σ ps o N e D n r =>
  pureE fr h o N e fun v d F1 H1 g1 h1 s1 o1 N1 hd1 => by
    obtain ⟨w, rfl, h1⟩ := h1
    have dv := hd1 0 rfl
    cases dv
    have e1 := e.mono s1
    obtain ⟨y, hy, dy⟩ := e1.get cg.h
    cases dy
    refine ⟨_, hy, pureE fr h1 o1 N1 e1 fun kv k F2 H2 g2 h2 s2 o2 N2 hd2 => ?_⟩
    have e2 := e1.mono s2
    rcases h2 with ⟨rfl, h2⟩ | ⟨rfl, h2⟩
    · skip
      have dk := hd2 0 rfl
      cases dk
      refine ⟨a, .ref ps.p1, rfl, .inl ⟨nowV sd ps, Sum.inr "spots", .inl N2.ha, rfl, (val_spots sd ps).symm⟩, pureE fr h2 o2 N2 e2 fun iv ix F3 H3 g3 h3 s3 o3 N3 hd3 => ?_⟩
      obtain ⟨j, rfl, hj, h3⟩ := h3
      have di := hd3 0 rfl
      cases di
      have e3 := e2.mono s3
      refine ⟨ps.p1, _, _, j, rfl, rfl, N3.h1, ixN_nat (by rw [List.length_map]; exact hj), ?_⟩
      have e4 : (sd.st.spots.map V.int).set j (V.int w) = (sd.st.spots.set j w).map V.int := by rw [List.map_set]
      rw [e4]
      have fp := N3.fn ps.p1 (by simp [Pts.all])
      exact n σ ds F3 _ g3 _ ps h3 (o3.put0 fp.1 fp.2) (N3.set_spots _) ((s1.trans s2).trans s3) e3
    · skip
      have dk := hd2 0 rfl
      cases dk
      refine ⟨a, .ref ps.p2, rfl, .inl ⟨nowV sd ps, Sum.inr "cells", .inl N2.ha, rfl, (val_cells sd ps).symm⟩, pureE fr h2 o2 N2 e2 fun iv ix F3 H3 g3 h3 s3 o3 N3 hd3 => ?_⟩
      obtain ⟨j, rfl, hj, h3⟩ := h3
      have di := hd3 0 rfl
      cases di
      have e3 := e2.mono s3
      refine ⟨ps.p2, _, _, j, rfl, rfl, N3.h2, ixN_nat (by rw [List.length_map]; exact hj), ?_⟩
      have e4 : (sd.st.cells.map V.int).set j (V.int w) = (sd.st.cells.set j w).map V.int := by rw [List.map_set]
      rw [e4]
      have fp := N3.fn ps.p2 (by simp [Pts.all])
      exact n σ ds F3 _ g3 _ ps h3 (o3.put0 fp.1 fp.2) (N3.set_cells _) ((s1.trans s2).trans s3) e3
end
end TM

/-! Defs over the state: what they promise. -/
namespace TM
open PySem PySem.Spec L2
abbrev DSN := ∀ (G : Type) (J : JT G), Addr → List Dv → G → Sd → (Dv → G → Sd → Prop) → Prop
def spDN (S : DSN) : Sp := fun vs H Q _ => ∃ (G : Type) (J : JT G) (F : Hp) (g : G) (a : Addr) (ps : Pts) (sd : Sd) (es : List Dv) (Φ : Dv → G → Sd → Prop), JFree J ∧ J.Ok F H g ∧ NowX J F H a ps sd ∧ DtAll F vs es ∧ S G J a es g sd Φ ∧
  ∀ v d F' H' g' sd' ps', Φ d g' sd' → J.Ok F' H' g' → NowX J F' H' a ps' sd' → Same F F' → Dt F' v d → Q v H'
section
variable {P : Program} {w : World} {K : PySem.W.Frag} {mg : Str → Option Value} {base : Heap}
theorem FuD.okN {x : Str} {ps N : List Str} {st : Stmt} {n : Nat} {S : DSN} (F : FuD K mg x ps st) (Sc : FnScope N ps (defScope st)) (hl : ∀ G (J : JT G) a es g sd Φ, S G J a es g sd Φ → es.length = ps.length)
    (hb : ∀ (f : Addr) (cdv : Value) (A : Around) (outer : List PySem.Env) (s : Shared) (H : Hp) (E : XK), Room n (A.deeper (PyProof.Rows.envOfC x (defScope st) s.heap.objs.size f cdv)) →
      ∃ t, PSs (cxOf CX0 P w K mg base N x (defScope st) f cdv A outer s H E).nox (defBody st) t ∧ ∀ (G : Type) (J : JT G) a es g sd Φ, JFree J → S G J a es g sd Φ →
        WN J a (es.map some ++ List.replicate (N.length - ps.length) none) g sd t { nx := fun _ g' sd' => Φ .non g' sd', rt := Φ }) : Df P w K mg base x (n + 1) ps (spDN S) := by
  obtain ⟨f, fd, F, m, b⟩ := F.ex
  refine ⟨f, fd, F.ok Sc (fun vs H Q E h => ?_) (fun cdv A outer s H vs Q E hr h => ?_), m, F.kp, b⟩
  · obtain ⟨G, J, F0, g, a, pt, sd, es, Φ, fr, o, nx, d, hS, q⟩ := h
    rw [d.length]
    exact hl G J a es g sd Φ hS
  · obtain ⟨G, J, F0, g, a, pt, sd, es, Φ, fr, o, nx, d, hS, q⟩ := h
    obtain ⟨t, ht, hw⟩ := hb f cdv A outer s H E hr
    refine ⟨t, ht, hw G J a es g sd Φ fr hS F0 H _ pt o nx ?_ _ (fun σ' ds' F' H' g' sd' ps' h' o' n' s' e' => q _ _ F' H' g' sd' ps' h' o' n' s' .non) (fun v d F' H' g' sd' ps' h' o' n' s' d' => q v d F' H' g' sd' ps' h' o' n' s' d')⟩
    unfold L2.start
    rw [d.length, hl G J a es g sd Φ hS]
    exact Env.args d (Env.nones _)
end
section
variable {G : Type} {J : JT G} {a : Addr} {ds ds' : DE} {g : G} {sd : Sd} {E : EsN G} {te : TE}
theorem wn_mid {t : TS} (P : DE → G → Sd → Prop) (h1 : WN J a ds g sd t { E with nx := P }) (h2 : ∀ ds' g' sd', P ds' g' sd' → E.nx ds' g' sd') : WN J a ds g sd t E := fun F H σ ps o N e D n r =>
  h1 F H σ ps o N e D (fun σ' ds' F' H' g' sd' ps' h => n σ' ds' F' H' g' sd' ps' (h2 ds' g' sd' h)) r
theorem wn_init {ds' : DE} {t : TS} (h : ds = ds') (k : WN J a ds' g sd t E) : WN J a ds g sd t E := by
  rw [h]
  exact k
theorem wn_call2 (fr : JFree J) {S : DSN} {X : XK} {i j : Nat} {f : Dv → DE} [c : NowS ds a (nowD sd) ds'] [cg : GetC ds i (.raw (.ref a))] [cs : SetF ds j f] (h : WE J ds' g te fun d g' => (∃ n, tupO n d = true) ∧ S G J a [d, .raw (.ref a)] g' sd fun d2 g2 sd2 => E.nx (f d2) g2 sd2) :
    WN J a ds g sd (tAsg (tCall (spDN S) [] X (tCons te (tCons (tVar i) tNil))) (gName j)) E := fun F H σ ps o N e D n r =>
  pureE (te := te) fr h o N e fun v d F2 H1 g1 h1 s2 o2 N2 hd => by
    obtain ⟨⟨k, hk⟩, h2⟩ := h1
    have e2 := e.mono s2
    obtain ⟨y, hy, dy⟩ := e2.get cg.h
    cases dy
    refine ⟨_, hy, ?_⟩
    show spDN S [v, .ref a] H1 _ X
    refine ⟨G, J, F2, g1, a, ps, sd, _, _, fr, o2, N2, .cons (hd k hk) (.cons (.raw _) .nil), h2, fun v3 d3 F3 H3 g3 sd3 ps3 h3 o3 N3 s3 d3' => ?_⟩
    refine n _ _ F3 H3 g3 sd3 ps3 h3 o3 N3 (s2.trans s3) ?_
    rw [← cs.h]
    exact (e2.mono s3).set d3' j
end
theorem tup_ok (e : Ev) : tupO 2 (evD e) = true := by
  cases e with
  | fin b p w =>
    cases w with
    | no => rfl
    | spot d v => cases v <;> rfl
    | cell d v => cases v <;> rfl
  | _ => rfl
theorem tup_row (r : Row) : tupO 1 (rowD r) = true := by cases r <;> rfl
theorem tup_wr (x : Wr) : tupO 1 (wrD x) = true := by cases x <;> rfl
def S__law_goes : DSN := fun G J a es g sd Φ => ∃ r : Row, es = [rowD r, .raw (.ref a)] ∧ r.ok ∧ sd.st.spots.length = 8 ∧ sd.st.cells.length = 16 ∧ (∀ v ∈ sd.st.spots, 0 ≤ v ∧ v < 4294967296) ∧ Φ (wrD (wroteBy sd.st.spots sd.st.cells r)) g { sd with st := (stepR sd.st r).1 }
def S__law_take_up : DSN := fun G J a es g sd Φ => ∃ (m : Mill) (rs : Rings) (e : Ev), es = [millD m, ringsD rs, .raw (.ref a), evD e] ∧ m.ok ∧ Rings.ok m rs ∧ sd.ok m ∧ Fits m rs sd e ∧ Φ .non g (takenUp m rs sd e)
end TM

/-! The plain law: a walk of events, and where it parts. -/
namespace TM
open PySem L2
structure SdB (m : Mill) (k : Nat) (s : Sd) : Prop where
  st : s.st.ok m
  n1 : s.owed.length ≤ k
  n2 : s.laid.length ≤ k
  n3 : s.took.length ≤ k
theorem SdB.ok {m : Mill} {k : Nat} {s : Sd} (h : SdB m k s) (hk : k ≤ 1000) : s.ok m := ⟨h.st, Nat.le_trans h.n1 hk, Nat.le_trans h.n2 hk, Nat.le_trans h.n3 hk⟩
theorem step_rest {m : Mill} {rs : Rings} {tm : Tm} {sd : Sd} {b p : Int} {w : Wro} (h : endCause m rs tm sd b p w = none) : sd.st.place ≠ m.rows.length ∧ ((step m sd.st).2 = .no ↔ w = .no) := by
  unfold endCause at h
  split at h
  · cases h
  rename_i h1
  refine ⟨h1, ?_⟩
  split at h
  · cases h
  split at h
  · cases h
  split at h
  · cases h
  split at h
  · cases h
  have hy : (step m sd.st).2 = wroteBy sd.st.spots sd.st.cells (m.row sd.st.place) := rfl
  rw [hy]
  generalize wroteBy sd.st.spots sd.st.cells (m.row sd.st.place) = y at h ⊢
  cases y <;> cases w <;> simp [wroteCause] at h ⊢
theorem fits_of {m : Mill} {rs : Rings} {tm : Tm} {sd : Sd} {e : Ev} (h : causeOf m rs tm sd e = none) : Fits m rs sd e := by
  unfold causeOf at h
  split at h
  · cases h
  split at h
  · cases h
  cases e with
  | fin b p w => exact step_rest h
  | late b n w => trivial
  | down b n i w => trivial
  | bell b k =>
    simp only [bellCause] at h
    split at h
    · cases h
    rename_i h1
    split at h
    · cases h
    rename_i h2
    exact ⟨by simpa using h1, by simpa using h2⟩
theorem set_bd {xs : List Int} {i : Nat} {w : Int} (h : ∀ v ∈ xs, 0 ≤ v ∧ v < 4294967296) (hw : 0 ≤ w ∧ w < 4294967296) : ∀ v ∈ xs.set i w, 0 ≤ v ∧ v < 4294967296 := fun v hv => by
  rcases List.mem_or_eq_of_mem_set hv with q | q
  · exact h v q
  · rw [q]
    exact hw
theorem step_ok {m : Mill} {s : Stt} (hm : m.ok) (hs : s.ok m) (hp : s.place ≠ m.rows.length) : (step m s).1.ok m := by
  have p0 := hs.p0
  have p1 : s.place < m.rows.length := by have := hs.p1; omega
  have ro := row_ok hm p0 p1
  have rb : ∀ x p, m.row s.place = .go x p → 0 ≤ p ∧ p ≤ m.rows.length := fun x p e => hm.rb (m.row s.place) (by
    unfold Mill.row
    rw [List.getD_eq_getElem?_getD, List.getElem?_eq_getElem (by omega)]
    exact List.getElem_mem _) x p e
  have sb : ∀ x, x < 8 → 0 ≤ sp s.spots x ∧ sp s.spots x < 4294967296 := fun x hx => sp_bd hs.sw (by rw [hs.sp]; exact hx)
  show (stepR s (m.row s.place)).1.ok m
  generalize m.row s.place = r at ro rb ⊢
  have wb : ∀ d w, wroteBy s.spots s.cells r = .spot d w → 0 ≤ w ∧ w < 4294967296 := fun d w e => by
    cases r <;> simp only [wroteBy, Wr.spot.injEq, reduceCtorEq] at e <;> obtain ⟨-, rfl⟩ := e <;> simp only [Row.ok] at ro
    · exact ro.2
    · exact ⟨Int.emod_nonneg _ (by decide), Int.emod_lt_of_pos _ (by decide)⟩
    · exact ⟨Int.emod_nonneg _ (by decide), Int.emod_lt_of_pos _ (by decide)⟩
    · split <;> decide
    · exact sp_bd (sp := s.cells) hs.cw (by rw [hs.ce]; exact cellAt_lt _ _ _)
  have wc : ∀ d w, wroteBy s.spots s.cells r = .cell d w → 0 ≤ w ∧ w < 4294967296 := fun d w e => by
    cases r <;> simp only [wroteBy, Wr.cell.injEq, reduceCtorEq] at e <;> obtain ⟨-, rfl⟩ := e <;> simp only [Row.ok] at ro
    exact sb _ ro.1
  have hpl : 0 ≤ placeBehind s.place s.spots s.kept r ∧ placeBehind s.place s.spots s.kept r ≤ m.rows.length := by
    cases r
    case go x p =>
      have := rb x p rfl
      simp only [placeBehind]
      split <;> omega
    case home =>
      simp only [placeBehind]
      cases hk : s.kept with
      | none => simp only [Option.getD_none]; omega
      | some p =>
        have := hs.kp p hk
        simp only [Option.getD_some]
        omega
    all_goals
      simp only [placeBehind]
      omega
  have hkp : ∀ p, keptBy s.kept r = some p → 0 ≤ p ∧ p ≤ m.rows.length := fun p e => by
    cases r <;> first | exact hs.kp p e | (simp [keptBy] at e)
  unfold stepR
  generalize wroteBy s.spots s.cells r = y at wb wc ⊢
  cases y with
  | no => exact ⟨hpl.1, hpl.2, hs.sp, hs.ce, hs.sw, hs.cw, hkp⟩
  | spot d w => exact ⟨hpl.1, hpl.2, by show (s.spots.set d w).length = 8; rw [List.length_set]; exact hs.sp, hs.ce, set_bd hs.sw (wb d w rfl), hs.cw, hkp⟩
  | cell d w => exact ⟨hpl.1, hpl.2, hs.sp, by show (s.cells.set d w).length = 16; rw [List.length_set]; exact hs.ce, hs.sw, set_bd hs.cw (wc d w rfl), hkp⟩
theorem taken_ok {m : Mill} {rs : Rings} {sd : Sd} {e : Ev} {k : Nat} (hm : m.ok) (hr : Rings.ok m rs) (hs : SdB m k sd) (hf : Fits m rs sd e) : SdB m (k + 1) (takenUp m rs sd e) := by
  obtain ⟨h0, h1, h2, h3⟩ := hs
  cases e with
  | late b n w => exact ⟨h0, Nat.le_trans (List.length_filter_le _ _) (by omega), by show sd.laid.length ≤ k + 1; omega, by show sd.took.length ≤ k + 1; omega⟩
  | down b n i w => exact ⟨h0, by show sd.owed.length ≤ k + 1; omega, by show (sd.laid.drop 1).length ≤ k + 1; rw [List.length_drop]; omega, by show sd.took.length ≤ k + 1; omega⟩
  | bell b q =>
    have kb := waits_mem hr hf.1
    refine ⟨⟨?_, ?_, h0.sp, h0.ce, h0.sw, h0.cw, fun p e => ?_⟩, by show sd.owed.length ≤ k + 1; omega, by show sd.laid.length ≤ k + 1; omega, by show (sd.took ++ [q]).length ≤ k + 1; rw [List.length_append]; simp; omega⟩
    · show 0 ≤ m.bells.getD q.toNat 0
      rw [List.getD_eq_getElem?_getD, List.getElem?_eq_getElem (by omega)]
      exact (hm.bells _ (List.getElem_mem _)).1
    · show m.bells.getD q.toNat 0 ≤ m.rows.length
      rw [List.getD_eq_getElem?_getD, List.getElem?_eq_getElem (by omega)]
      exact (hm.bells _ (List.getElem_mem _)).2
    · cases e
      exact ⟨h0.p0, h0.p1⟩
  | fin b p w =>
    have so := step_ok hm h0 hf.1
    simp only [takenUp]
    split
    · exact ⟨so, by show sd.owed.length ≤ k + 1; omega, by show sd.laid.length ≤ k + 1; omega, by show sd.took.length ≤ k + 1; omega⟩
    · split
      · exact ⟨so, by show (sd.owed ++ [_]).length ≤ k + 1; rw [List.length_append]; simp; omega, by show sd.laid.length ≤ k + 1; omega, by show sd.took.length ≤ k + 1; omega⟩
      · exact ⟨so, by show sd.owed.length ≤ k + 1; omega, by show sd.laid.length ≤ k + 1; omega, by show sd.took.length ≤ k + 1; omega⟩
    · split
      · exact ⟨so, by show (sd.owed ++ [_]).length ≤ k + 1; rw [List.length_append]; simp; omega, by show sd.laid.length ≤ k + 1; omega, by show sd.took.length ≤ k + 1; omega⟩
      · exact ⟨so, by show sd.owed.length ≤ k + 1; omega, by show (sd.laid ++ [_]).length ≤ k + 1; rw [List.length_append]; simp; omega, by show sd.took.length ≤ k + 1; omega⟩
theorem part_cause {m : Mill} {rs : Rings} {tm : Tm} {i : Int} {sd : Sd} {e : Ev} {c : Str} (h : causeOf m rs tm sd e = some c) (rest : List Ev) : part m rs tm i sd (e :: rest) = some (i, c) := by
  simp only [part, h]
theorem part_none {m : Mill} {rs : Rings} {tm : Tm} {i : Int} {sd : Sd} {e : Ev} (h : causeOf m rs tm sd e = none) (rest : List Ev) : part m rs tm i sd (e :: rest) = part m rs tm (i + 1) (takenUp m rs sd e) rest := by
  simp only [part, h]
end TM

/-! dict.update. -/
namespace TM
open PySem PySem.Spec L2 PyProof.Rows
def rUpd : V → List V → Hp → VK → Prop := fun x vs H Q => ∃ (d o : Addr) (kvs more : List (Key × V)), x = .ref d ∧ vs = [.ref o] ∧ d ≠ o ∧ H d = some (.dK kvs) ∧ H o = some (.dK more) ∧ kvs.length + more.length ≤ 1000 ∧ (mergeK kvs more).length ≤ 1000 ∧ Q .non (upd H d (.dK (mergeK kvs more)))
section
variable {X : Cx}
theorem mt_upd : MtM X "dict.update" rUpd := by
  intro pins s σ H x vs v us Q I rx rv h
  obtain ⟨d, o, kvs, more, rfl, rfl, ne, hd, ho, hz, hz2, q⟩ := h
  cases rx
  obtain ⟨u, rfl, ru⟩ := rv.one
  cases ru
  obtain ⟨z1, hd1, vs1, rel1, dd1⟩ := dk_of I.hok hd
  obtain ⟨z2, hd2, vs2, rel2, dd2⟩ := dk_of I.hok ho
  refine call_meetsIn PySem.F.slot_dict_update dd1.typeIs PySem.F.entry_dict_update (PySem.F.args_dict_update_2 _ _) (meets_dict_update (mixKind X.prog X.w) d o ne hd2)
    ⟨vs1, vs2, dd1, dd2, by rw [← rel1.length, ← rel2.length]; exact sz1000 (by omega), fun h' dd' dd2' hs => ?_⟩
  have he : ∃ q, h'.get? d = some q := let ⟨q, _, _, hq, _⟩ := dd'; ⟨q, hq⟩
  exact ⟨.non, _, d_write I (by rw [hd]; exact True.intro) hs he (dk_new (sz1000 (by omega)) hd1 (KV.merge rel2 rel1) dd'), rfl, q⟩
end
end TM

/-! A diary that grows beside the state; a loop over the state. -/
namespace TM
open PySem L2
section
variable {G : Type} {J : JT G} {p : Addr} {ds : DE} {gx : G × List Dv} {Ψ : Dv → G × List Dv → Prop} {te : TE} {ta : TA} {K : PySem.W.Frag} {X : XK}
def JT.withT (J : JT G) (p : Addr) : JT (G × List Dv) where
  M := p :: J.M
  C F H gx := J.C F H gx.1 ∧ ∃ vs, H p = some (.lst vs) ∧ DtAll F vs gx.2 ∧ gx.2.all (tupO 3) = true
  mono := fun h s1 s2 hm => by
    obtain ⟨h1, vs, h2, h3, h4⟩ := h
    exact ⟨J.mono h1 s1 s2 fun m hm' => hm m (.tail _ hm'), vs, by rw [hm _ (.head _)]; exact h2, h3.mono s1, h4⟩
theorem JFree.withT (fr : JFree J) : JFree (J.withT p) := ⟨fun hs h => by
  obtain ⟨h1, vs, h2, h3, h4⟩ := h
  exact ⟨fr.h hs h1, vs, h2, dt_hideAll (fun v d => dt_hide hs 3 v d) h4 h3, h4⟩⟩
theorem JT.Ok.dropT {F H : Hp} (o : (J.withT p).Ok F H gx) : J.Ok F H gx.1 := ⟨o.ex, fun m hm => o.mu m (.tail _ hm), o.c.1⟩
theorem JT.Ok.setT {F H : Hp} {ws : List V} {ys : List Dv} (o : (J.withT p).Ok F H gx) (np : p ∉ J.M) (h : DtAll F ws ys) (ht : ys.all (tupO 3) = true) : (J.withT p).Ok F (upd H p (.lst ws)) (gx.1, ys) := by
  have fp : F p = none := (o.mu p (.head _)).1
  have k := o.dropT.put0 (p := p) (o := .lst ws) fp np
  refine ⟨k.ex, fun m hm => ?_, k.c, ws, upd_same, h, ht⟩
  cases hm with
  | head => exact ⟨fp, by rw [upd_same]; exact fun z => nomatch z⟩
  | tail _ hm => exact k.mu m hm
theorem we_appendT (np : p ∉ J.M) (h : WE (J.withT p) ds gx te fun d g1 => d = .raw (.ref p) ∧ WA (J.withT p) ds g1 ta fun es g2 => ∃ y, es = [y] ∧ g2.2.length ≤ 50000 ∧ tupO 3 y = true ∧ Ψ .non (g2.1, g2.2 ++ [y])) :
    WE (J.withT p) ds gx (tBM K "list" rAppend te ta) Ψ := fun F H σ o e Q q =>
  h F H σ o e _ fun v d F1 H1 g1 h1 o1 t1 d1 => by
    obtain ⟨rfl, h1⟩ := h1
    cases d1
    obtain ⟨_, ws, hp, _⟩ := o1.c
    refine ⟨.inl ⟨rfl, ws, .inl (.inl hp)⟩, h1 F1 H1 σ o1 (e.mono t1.f) _ fun vs es F2 H2 g2 h2 o2 t2 d2 => ?_⟩
    obtain ⟨y, rfl, hl, hy, k⟩ := h2
    cases d2 with
    | cons d2 dn =>
      cases dn
      obtain ⟨_, ws2, hp2, da, ht⟩ := o2.c
      exact ⟨p, ws2, _, rfl, rfl, hp2, sz1001 (by rw [da.length]; omega), q _ _ F2 _ _ k (o2.setT np (da.append (.cons d2 .nil)) (by rw [List.all_append, ht]; simp [hy])) ((t1.trans t2).trans (tr_upd (J := J.withT p) (.head _))) .non⟩
theorem rc_len_T (k : Ψ (.int (gx.2.length : Int)) gx) : RC (J.withT p) (rLenU K) [.raw (.ref p)] gx Ψ := fun F H vs o d1 Q q => by
  cases d1 with
  | cons d1 dn =>
    cases dn
    cases d1
    obtain ⟨_, ws, hp, da, _⟩ := o.c
    exact ⟨_, _, rfl, .inl (.inl (.inl hp)), by rw [da.length]; exact q _ _ F H gx k o Tr.refl (.int _)⟩
theorem ro_add_T {ys : List Dv} (hz : gx.2.length + ys.length ≤ 100000) (k : Ψ (.lst (gx.2 ++ ys)) gx) : RO (J.withT p) (rAddU K) (.raw (.ref p)) (.lst ys) gx Ψ := fun F H v w o d1 d2 Q q => by
  cases d1
  obtain ⟨_, ws, hp, da, _⟩ := o.c
  cases d2 with
  | lst hb db =>
    refine .inr (.inl ⟨_, _, _, _, rfl, rfl, hp, o.ex _ _ hb, sz1000 (by rw [da.length, db.length]; exact hz), ?_⟩)
    exact fin_new q k o Tr.refl fun p F2 s e => .lst e ((da.append db).mono s)
variable {b gr : Addr} {fold : Int} {cnt : G → Nat} {bump : G → Nat → G}
theorem BagJ.withT (B : BagJ J b gr fold cnt bump) (np : p ∉ J.M) : BagJ (J.withT p) b gr fold (fun gx => cnt gx.1) (fun gx n => (bump gx.1 n, gx.2)) where
  mb := .tail _ B.mb
  mg := .tail _ B.mg
  ne := B.ne
  f0 := B.f0
  f1 := B.f1
  rd := fun o => B.rd o.dropT
  wr := fun {F H gx great n} o hg => by
    have q := B.wr (n := n) o.dropT hg
    have n1 : p ≠ b := fun z => np (by rw [z]; exact B.mb)
    have n2 : p ≠ gr := fun z => np (by rw [z]; exact B.mg)
    obtain ⟨_, ws, hp, da⟩ := o.c
    refine ⟨q.ex, fun m hm => ?_, q.c, ws, by rw [upd_ne n2, upd_ne n1]; exact hp, da⟩
    cases hm with
    | head => exact ⟨(o.mu _ (.head _)).1, by rw [upd_ne n2, upd_ne n1, hp]; exact fun z => nomatch z⟩
    | tail _ hm => exact q.mu m hm
  c1 := fun g n => B.c1 g.1 n
  c2 := fun g a n => by rw [B.c2]
  c3 := fun g => by rw [B.c3]
theorem we_bagT {α : Type} {k : α → Nat} {arg : α → List Dv} {ok : α → Prop} {R : α → Dv → Prop} (B : BagJ J b gr fold cnt bump) (np : p ∉ J.M) (h : WA (J.withT p) ds gx ta fun es g1 => ∃ (a : α) (g0 : G) (n : Nat) (xs : List Dv), es = .raw (.ref b) :: arg a ∧ g1 = (bump g0 n, xs) ∧ ok a ∧ n + k a ≤ 1000000 ∧
    ∀ d m, n ≤ m → m ≤ n + k a → R a d → Ψ d (bump g0 m, xs)) : WE (J.withT p) ds gx (tCall (spD (BagS k arg ok R)) [] X ta) Ψ := we_call fun F H σ o e Q q => h F H σ o e Q fun vs es F' H' g1 h' => q vs es F' H' g1 (by
  obtain ⟨a, g0, n, xs, rfl, rfl, h1, h2, h3⟩ := h'
  refine ⟨a, b, gr, fold, _, _, rfl, B.withT np, h1, by simp only [B.c1]; exact h2, fun d m m0 m1 hR => ?_⟩
  simp only [B.c1] at m0 m1
  simp only [B.c2]
  exact h3 d m m0 m1 hR)
theorem we_drawT (B : BagJ J b gr fold cnt bump) (np : p ∉ J.M) (h : WA (J.withT p) ds gx ta fun es g1 => ∃ (g0 : G) (n : Nat) (xs : List Dv) (many : Int), es = [.raw (.ref b), .int many] ∧ g1 = (bump g0 n, xs) ∧ (0 < many ∧ many < 1073741824) ∧ n < 1000000 ∧ ∀ i : Int, 0 ≤ i → i < many → Ψ (.int i) (bump g0 (n + 1), xs)) :
    WE (J.withT p) ds gx (tCall (spD S__law_draw) [] X ta) Ψ := we_call fun F H σ o e Q q => h F H σ o e Q fun vs es F' H' g1 h' => q vs es F' H' g1 (by
  obtain ⟨g0, n, xs, many, rfl, rfl, h1, h2, h3⟩ := h'
  refine ⟨b, gr, fold, _, _, many, rfl, B.withT np, h1.1, h1.2, by simp only [B.c1]; exact h2, fun i i0 i1 => ?_⟩
  simp only [B.c1, B.c2]
  exact h3 i i0 i1)
theorem wf_addT {t1 t2 : TE} {Φ : List Dv → G × List Dv → Prop} (h : WE (J.withT p) ds gx t1 fun d g1 => d = .raw (.ref p) ∧ WE (J.withT p) ds g1 t2 fun y g2 => ∃ ys, y = .lst ys ∧ g2.2.length + ys.length ≤ 100000 ∧ Φ (g2.2 ++ ys) g2) : WEf (J.withT p) ds gx (tOp (rAddU K) t1 t2) Φ := fun F H σ o e Q q =>
  h F H σ o e _ fun v x F1 H1 g1 h1 o1 t1 d1 => by
    obtain ⟨rfl, h1⟩ := h1
    cases d1
    refine h1 F1 H1 σ o1 (e.mono t1.f) _ fun w y F2 H2 g2 h2 o2 t2 d2 => ?_
    obtain ⟨ys, rfl, hz, k⟩ := h2
    obtain ⟨_, ws, hp, da, _⟩ := o2.c
    cases d2 with
    | @lst a2 vs2 _ hb db =>
      refine .inr (.inl ⟨_, _, _, _, rfl, rfl, hp, o2.ex _ _ hb, sz1000 (by rw [da.length, db.length]; exact hz), fun q2 hq => ?_⟩)
      have hq0 : H q2 = none := by
        cases z : H q2 with
        | none => rfl
        | some u => exact absurd hq ((t1.trans t2).k q2 (by rw [z]; exact fun w => nomatch w))
      have ta := Tr.alloc (J := J.withT p) (o := .lst (ws ++ vs2)) o2 hq
      exact q q2 _ _ _ _ g2 k (o2.alloc hq) ((t1.trans t2).trans ta) hq0 upd_same ((da.append db).mono ta.f)
end
theorem bagT_free {b gr : Addr} {fold : Int} : JFree (bagT b gr fold) := ⟨fun _ h => h⟩
section
variable {G : Type} {J : JT G} {a : Addr} {ds ds' : DE} {g : G} {sd : Sd} {t u : TS} {E : EsN G} {te : TE} {ta : TA}
def EsN.withT (E : EsN G) (p : Addr) : EsN (G × List Dv) where
  nx := fun ds gx sd => E.nx ds gx.1 sd
  rt := fun d gx sd => ∃ d', Fz p gx.2 d d' ∧ E.rt d' gx.1 sd
theorem wn_newT {i : Nat} {f : Dv → DE} [c : SetF ds i f] (h : ∀ p, p ∉ J.M → WN (J.withT p) a (f (.raw (.ref p))) (g, []) sd t (E.withT p)) : WN J a ds g sd (tSeq (tAsg (tLst tNil) (gName i)) t) E := fun F H σ ps o N e D n r => by
  refine ⟨by show 0 ≤ sizeLine; exact Nat.zero_le _, fun p hp => ?_⟩
  have np := o.nomem hp
  have fp := o.fnone hp
  have pa : ∀ x ∈ ps.all a, x ≠ p := fun x hx z => by
    subst z
    rcases N.lstOrDict hx with ⟨vs, h⟩ | ⟨kvs, h⟩ <;> rw [hp] at h <;> cases h
  have oT : (J.withT p).Ok F (upd H p (.lst [])) (g, []) := by
    have q := o.put0 (o := .lst []) fp np
    refine ⟨q.ex, fun m hm => ?_, q.c, [], upd_same, .nil, rfl⟩
    cases hm with
    | head => exact ⟨fp, by rw [upd_same]; exact fun z => nomatch z⟩
    | tail _ hm => exact q.mu m hm
  have N1 := N.keep (Same.refl F) (fun x hx => (N.fn x hx).1) (H' := upd H p (.lst [])) (fun x hx => upd_ne (pa x hx))
  have NT : NowX (J.withT p) F (upd H p (.lst [])) a ps sd := ⟨N1.nd, fun x hx => ⟨(N1.fn x hx).1, fun hm => by
    cases hm with
    | head => exact pa p hx rfl
    | tail _ hm => exact (N1.fn x hx).2 hm⟩, N1.ha, N1.h1, N1.h2, N1.h3, N1.h4, N1.h5⟩
  have eσ : Env F (σ.set i (some (.ref p))) (f (.raw (.ref p))) := by
    rw [← c.h]
    exact e.set (.raw _) i
  have fin : ∀ {F' H' : Hp} {gx : G × List Dv} {ps' : Pts} {sd' : Sd}, (J.withT p).Ok F' H' gx → NowX (J.withT p) F' H' a ps' sd' → Same F F' → ∃ ws, J.Ok (upd F' p (.lst ws)) H' gx.1 ∧ NowX J (upd F' p (.lst ws)) H' a ps' sd' ∧ Same F (upd F' p (.lst ws)) ∧ DtAll F' ws gx.2 ∧ Same F' (upd F' p (.lst ws)) := fun {F' H' gx ps' sd'} o' N' s' => by
    obtain ⟨_, ws, hp', da, _⟩ := o'.c
    have fp' : F' p = none := (o'.mu p (.head _)).1
    have k := o'.dropT.put (p := p) (o := .lst ws) fp' np
    rw [upd_self hp'] at k
    have sF : Same F' (upd F' p (.lst ws)) := fun x u hx => by rw [upd_ne (ne_of_none hx fp')]; exact hx
    have N0 : NowX J F' H' a ps' sd' := ⟨N'.nd, fun x hx => ⟨(N'.fn x hx).1, fun hm => (N'.fn x hx).2 (.tail _ hm)⟩, N'.ha, N'.h1, N'.h2, N'.h3, N'.h4, N'.h5⟩
    refine ⟨ws, k, N0.keep sF (fun x hx => ?_) fun _ _ => rfl, s'.trans sF, da, sF⟩
    have ne : x ≠ p := fun z => (N'.fn x hx).2 (by rw [z]; exact .head _)
    rw [upd_ne ne]
    exact (N'.fn x hx).1
  refine h p np F _ _ ps oT NT eσ D (fun σ' ds' F' H' gx sd' ps' h' o' N' s' e' => ?_) (fun v d F' H' gx sd' ps' h' o' N' s' d' => ?_)
  · obtain ⟨ws, k1, k2, k3, k4, k5⟩ := fin o' N' s'
    exact n σ' ds' _ H' gx.1 sd' ps' h' k1 k2 k3 (e'.mono k5)
  · obtain ⟨ws, k1, k2, k3, k4, k5⟩ := fin o' N' s'
    obtain ⟨d2, hz, h2⟩ := h'
    exact r v d2 _ H' gx.1 sd' ps' h2 k1 k2 k3 (hz _ ws v upd_same (k4.mono k5) (d'.mono k5))
theorem wn_drop (fr : JFree J) [c : NowS ds a (nowD sd) ds'] (h : WE J ds' g te fun d g' => E.nx ds g' sd) : WN J a ds g sd (tDrop te) E := fun F H σ ps o N e D n r =>
  pureE fr h o N e fun v d F2 H1 g1 h1 s2 o2 N2 hd => n σ ds F2 H1 g1 sd ps h1 o2 N2 s2 (e.mono s2)
/-- (a new list, plain data) handed back -/
theorem wn_retPair (fr : JFree J) {t1 t2 : TE} [c : NowS ds a (nowD sd) ds'] (h : WEf J ds' g t1 fun xs g1 => xs.all (tupO 3) = true ∧ WE J ds' g1 t2 fun d g2 => tupO 1 d = true ∧ E.rt (.tup [.lst xs, d]) g2 sd) :
    WN J a ds g sd (tRet (tTup (tCons t1 (tCons t2 tNil)))) E := fun F H σ ps o N e D n r => by
  obtain ⟨FN, sF, oN, dN, eN, fin⟩ := N.pure fr o
  refine h FN H σ oN (c.h (e.mono sF) dN) _ fun p xs vs F1 H1 g1 h1 o1 t1 hp0 hp1 d1 => ?_
  obtain ⟨hx, h1⟩ := h1
  refine h1 F1 H1 σ o1 (c.h (e.mono (sF.trans t1.f)) (dN.mono t1.f)) _ fun w d F2 H2 g2 h2 o2 t2 d2 => ?_
  obtain ⟨hd, hE⟩ := h2
  refine ⟨by show 2 ≤ sizeLine; decide, fun l hl => ?_⟩
  have tq := (t1.trans t2).trans (Tr.alloc (J := J) (o := .tup [.ref p, w]) o2 hl)
  obtain ⟨F3, s3, o3, N3, k3, f3⟩ := fin _ _ g2 (o2.alloc hl) tq
  have pA : p ∉ ps.all a := fun m => by
    rcases N.lstOrDict m with ⟨vs, h⟩ | ⟨kvs, h⟩ <;> rw [hp0] at h <;> cases h
  have lA : l ∉ ps.all a := fun m => by
    have q : FN l = H l := eN l m
    rcases N.lstOrDict m with ⟨vs, h⟩ | ⟨kvs, h⟩ <;> rw [h] at q <;> have q2 := o2.ex _ _ ((t1.trans t2).f _ _ q) <;> rw [hl] at q2 <;> cases q2
  have hpl : p ≠ l := fun z => by
    have q2 := o2.ex _ _ (t2.f _ _ hp1)
    rw [z, hl] at q2
    cases q2
  have q1 : F3 p = some (.lst vs) := by
    rw [f3 p pA, upd_ne hpl]
    exact t2.f _ _ hp1
  have q2 : F3 l = some (.tup [.ref p, w]) := by
    rw [f3 l lA, upd_same]
  have sA : Same F2 (upd F2 l (.tup [.ref p, w])) := (Tr.alloc (J := J) (o := .tup [.ref p, w]) o2 hl).f
  exact r (.ref l) _ F3 _ g2 sd ps hE o3 N3 s3 (.tup (.inl q2) (.cons (.lst q1 (dt_hideAll (n := 3) (fun v d => k3 3 v d) hx ((d1.mono t2.f).mono sA))) (.cons (k3 1 w d hd (d2.mono sA)) .nil)))
/-- for k in range(n) -/
theorem wn_for (fr : JFree J) {k : Nat} [c : NowS ds a (nowD sd) ds'] (h : WA J ds' g ta fun es g1 => ∃ N : Nat, es = [.int (N : Int)] ∧ N ≤ 1000 ∧ ∃ I : Nat → DE → G → Sd → Prop, I 0 ds g1 sd ∧
      (∀ i ds2 g2 sd2, i < N → I i ds2 g2 sd2 → WN J a (ds2.set k (some (.int (i : Int)))) g2 sd2 t { nx := I (i + 1), rt := E.rt }) ∧ (∀ ds2 g2 sd2, I N ds2 g2 sd2 → E.nx ds2 g2 sd2)) :
    WN J a ds g sd (tFor (iRng1 ta) (gName k) t) E := fun F H σ ps o N e D n r => by
  obtain ⟨FN, sF, oN, dN, _, fin⟩ := N.pure fr o
  refine h FN H σ oN (c.h (e.mono sF) dN) _ fun vs es F1 H1 g1 h1 o1 t1 d1 => ?_
  obtain ⟨M, rfl, hM, I, h0, hs, hd⟩ := h1
  obtain ⟨F2, s2, o2, N2, _, _⟩ := fin F1 H1 g1 o1 t1
  cases d1 with
  | cons d1 dn =>
    cases d1
    cases dn
    refine ⟨(M : Int), rfl, by omega, by omega, ?_⟩
    rw [Int.toNat_natCast]
    have sr : Src (Itr 0 M) F2 (rngD M) := src_rng
    have hl : (rngD M).length = M := by simp [rngD]
    refine ⟨fun i m σ' H' => m = M - i ∧ i ≤ M ∧ ∃ ds2 F' g' sd' ps', I i ds2 g' sd' ∧ J.Ok F' H' g' ∧ NowX J F' H' a ps' sd' ∧ Same F F' ∧ Env F' σ' ds2, ⟨M, by simp, Nat.zero_le _, ds, F2, g1, sd, ps, h0, o2, N2, s2, e.mono s2⟩, ?_⟩
    rintro i m σ' H' ⟨rfl, hi, ds2, F', g', sd', ps', hI, o', N', s', e'⟩
    by_cases hlt : i < M
    · have srx : Src (Itr 0 M) F' (rngD M) := src_rng
      refine .inr ⟨srx.go F' H' i (Same.refl _) o'.ex (by rw [hl]; exact hlt), fun σ3 H3 => ∃ ds3 F3 g3 sd3 ps3, I (i + 1) ds3 g3 sd3 ∧ J.Ok F3 H3 g3 ∧ NowX J F3 H3 a ps3 sd3 ∧ Same F F3 ∧ Env F3 σ3 ds3, fun σ3 H3 z => ⟨M - (i + 1), by omega, rfl, hlt, z⟩, fun v H3 y => ?_⟩
      obtain ⟨rfl, x, hx, dx⟩ := srx.yld F' H' i v H3 (Same.refl _) o'.ex y (by rw [hl]; exact hlt)
      have hx2 : x = .int (i : Int) := by
        simpa [rngD, hlt] using hx.symm
      subst hx2
      exact hs i ds2 g' sd' hlt hI F' _ _ ps' o' N' (e'.set dx k) _ (fun σ4 ds4 F4 H4 g4 sd4 ps4 h4 o4 N4 s4 e4 => ⟨ds4, F4, g4, sd4, ps4, h4, o4, N4, s'.trans s4, e4⟩)
        (fun w d F4 H4 g4 sd4 ps4 h4 o4 N4 s4 d4 => r w d F4 H4 g4 sd4 ps4 h4 o4 N4 (s'.trans s4) d4)
    · have ei : i = M := by omega
      subst ei
      have q := sr.stop F' H'
      rw [hl] at q
      have srx : Src (Itr 0 i) F' (rngD i) := src_rng
      have q2 := srx.stop F' H' (Same.refl _) o'.ex
      rw [hl] at q2
      exact .inl ⟨q2, n σ' ds2 F' H' g' sd' ps' (hd ds2 g' sd' hI) o' N' s' e'⟩
/-- a def over the state called with its words -/
theorem wn_call4 (fr : JFree J) {S : DSN} {X : XK} {i0 i1 i2 i3 : Nat} {d0 d1 d3 : Dv} [c0 : GetC ds i0 d0] [c1 : GetC ds i1 d1] [c2 : GetC ds i2 (.raw (.ref a))] [c3 : GetC ds i3 d3] (h : S G J a [d0, d1, .raw (.ref a), d3] g sd fun d2 g2 sd2 => E.nx ds g2 sd2) :
    WN J a ds g sd (tDrop (tCall (spDN S) [] X (tCons (tVar i0) (tCons (tVar i1) (tCons (tVar i2) (tCons (tVar i3) tNil)))))) E := fun F H σ ps o N e D n r => by
  obtain ⟨v0, h0, e0⟩ := e.get c0.h
  obtain ⟨v1, h1, e1⟩ := e.get c1.h
  obtain ⟨v2, h2, e2⟩ := e.get c2.h
  obtain ⟨v3, h3, e3⟩ := e.get c3.h
  cases e2
  refine ⟨v0, h0, v1, h1, _, h2, v3, h3, ?_⟩
  show spDN S [v0, v1, .ref a, v3] H _ X
  refine ⟨G, J, F, g, a, ps, sd, _, _, fr, o, N, .cons e0 (.cons e1 (.cons (.raw _) (.cons e3 .nil))), h, fun v4 d4 F4 H4 g4 sd4 ps4 h4 o4 N4 s4 d4' => ?_⟩
  exact n σ ds F4 H4 g4 sd4 ps4 h4 o4 N4 s4 (e.mono s4)
end
theorem tup_evO (e : Option Ev) : tupO 2 (evO e) = true := by
  cases e with
  | none => rfl
  | some e => exact tup_ok e
theorem tup_ok3 (e : Ev) : tupO 3 (evD e) = true := by
  cases e with
  | fin b p w =>
    cases w with
    | no => rfl
    | spot d v => cases v <;> rfl
    | cell d v => cases v <;> rfl
  | _ => rfl
theorem tup_cause (c : Cause) : tupO 0 (causeD c) = true := by cases c <;> rfl
/-- the tale that the law tells: a diary and where it parts -/
def S__law_tale : DSN := fun G J a es g sd Φ => ∃ (b gr : Addr) (fold : Int) (cnt : G → Nat) (bump : G → Nat → G) (m : Mill) (rs : Rings) (tm : Tm) (base : Int), BagJ J b gr fold cnt bump ∧ es = [.raw (.ref b), millD m, ringsD rs, tmD tm, .raw (.ref a), .int base] ∧
  m.ok ∧ Rings.ok m rs ∧ SdB m 0 sd ∧ cnt g ≤ 10000 ∧ ∀ evs : List Ev, evs.length ≤ 100 → ∀ g' sd', Φ (.tup [.lst (evs.map evD), partD (part m rs tm 0 sd evs)]) g' sd'
end TM

/-! Defs that make what changes. -/
namespace TM
open PySem PySem.Spec L2
section
variable {P : Program} {w : World} {K : PySem.W.Frag} {mg : Str → Option Value} {base : Heap}
theorem FuD.okR {x : Str} {ps N : List Str} {st : Stmt} {n : Nat} {sp : Sp} (F : FuD K mg x ps st) (Sc : FnScope N ps (defScope st)) (hl : ∀ vs H Q E, sp vs H Q E → vs.length = ps.length)
    (hb : ∀ (f : Addr) (cdv : Value) (A : Around) (outer : List PySem.Env) (s : Shared) (H : Hp) (E : XK), Room n (A.deeper (PyProof.Rows.envOfC x (defScope st) s.heap.objs.size f cdv)) →
      ∃ t, PSs (cxOf CX0 P w K mg base N x (defScope st) f cdv A outer s H E).nox (defBody st) t ∧ ∀ vs Q, sp vs H Q E → ∀ D : Ends, (∀ σ H', Q .non H' → D.nx σ H') → (∀ v H', Q v H' → D.rt v H') → t D (L2.start N vs) H) : Df P w K mg base x (n + 1) ps sp := by
  obtain ⟨f, fd, F, m, b⟩ := F.ex
  refine ⟨f, fd, F.ok Sc hl (fun cdv A outer s H vs Q E hr h => ?_), m, F.kp, b⟩
  obtain ⟨t, ht, hw⟩ := hb f cdv A outer s H E hr
  refine ⟨t, ht, ?_⟩
  exact hw vs Q h { nx := fun _ H' => Q .non H', rt := Q } (fun σ H' z => z) (fun v H' z => z)
end
theorem upd_none {H : Hp} {p x : Addr} {o : HO} (h : upd H p o x = none) : x ≠ p ∧ H x = none := by
  by_cases e : x = p
  · subst e
    rw [upd_same] at h
    cases h
  · rw [upd_ne e] at h
    exact ⟨e, h⟩
def spBegin : Sp := fun vs H Q _ => ∃ (G : Type) (J : JT G) (F : Hp) (g : G) (s : V) (st : Stt), J.Ok F H g ∧ vs = [s] ∧ Dt F s (sttD st) ∧ ∀ a ps H', J.Ok F H' g → NowX J F H' a ps (firstStand st) → Q (.ref a) H'
abbrev begKs1 (st : Stt) (p1 p2 : Addr) : List (Key × V) := [(Sum.inr "place", .int st.place), (Sum.inr "spots", .ref p1), (Sum.inr "cells", .ref p2), (Sum.inr "shut", .bl st.shut), (Sum.inr "kept", optV st.kept)]
abbrev begKs2 (p3 p4 p5 : Addr) : List (Key × V) := [(Sum.inr "beat", .int 0), (Sum.inr "crowd", .int 0), (Sum.inr "pressed", .int 0), (Sum.inr "owed", .ref p3), (Sum.inr "laid", .ref p4), (Sum.inr "took", .ref p5), (Sum.inr "ends", .int 0)]
theorem beg_m1 (st : Stt) (p1 p2 : Addr) : mergeK [] (begKs1 st p1 p2) = begKs1 st p1 p2 := by kernel_rfl
theorem beg_m2 (p3 p4 p5 : Addr) : mergeK [] (begKs2 p3 p4 p5) = begKs2 p3 p4 p5 := by kernel_rfl
theorem beg_m3 (st : Stt) (p1 p2 p3 p4 p5 : Addr) : mergeK (begKs1 st p1 p2) (begKs2 p3 p4 p5) = nowV (firstStand st) ⟨p1, p2, p3, p4, p5⟩ := by kernel_rfl
/-- nothing changes; F0 is known to stand -/
def baseJ (F0 : Hp) : JT Unit where
  M := []
  C F _ _ := Same F0 F
  mono := fun h s _ _ => h.trans s
section
variable {G : Type} {J : JT G} {ds : DE} {g : G} {te : TE} {K : PySem.W.Frag} {Λ : List Dv → G → Prop} {t u : TS}
theorem wi_listK {F0 : Hp} {a : Addr} {ns : List Int} (hS : ∀ H, Same F0 H → SqL K H a (ns.map V.int)) (hC : ∀ F H g, J.Ok F H g → Same F0 F) (h : WE J ds g te fun d g' => d = .raw (.ref a) ∧ Λ (intsD ns) g') : WI J ds g (iList K te) Λ := fun F H σ o e R q =>
  h F H σ o e _ fun v d F1 H1 g1 h1 o1 t1 d1 => by
    obtain ⟨rfl, k⟩ := h1
    cases d1
    have s1 := hC F1 H1 g1 o1
    refine ⟨a, rfl, ⟨_, hS H1 (s1.trans o1.ex)⟩, q _ (intsD ns) F1 H1 g1 k o1 t1 ?_⟩
    refine ⟨fun F' H' i s2 s3 hi => ?_, fun F' H' i v H2 s2 s3 y hi => ?_, fun F' H' s2 s3 => ?_⟩
    · have hv : i < (ns.map V.int).length := by simpa using hi
      exact ⟨ns.map V.int, (ns.map V.int)[i], hS H' ((s1.trans s2).trans s3), List.getElem?_eq_getElem hv⟩
    · obtain ⟨e, f⟩ := y
      have g := f _ (hS H' ((s1.trans s2).trans s3))
      obtain ⟨x, e1, e2⟩ := (DtAll.ints (F := F') ns).get' g
      exact ⟨e, x, e1, e2⟩
    · exact ⟨ns.map V.int, hS H' ((s1.trans s2).trans s3), by simp⟩
theorem ws_run {D : Ends} {F H : Hp} {σ : St} {P : DE → G → Prop} (h : WS J ds g t { nx := P, rt := fun _ _ => False }) (o : J.Ok F H g) (e : Env F σ ds) (k : ∀ σ' ds' F' H' g', P ds' g' → J.Ok F' H' g' → Tr J F H F' H' → Env F' σ' ds' → u D σ' H') : tSeq t u D σ H :=
  h F H σ o e { D with nx := u D } (fun σ' ds' F' H' g' hp o' t' e' => k σ' ds' F' H' g' hp o' t' e') (fun _ _ _ _ _ z => z.elim) (fun _ _ _ _ _ z => z.elim) (fun _ _ _ _ _ z => z.elim)
end
/-- what the script is: whole numbers, tracked or written -/
def spBag (K : PySem.W.Frag) : Sp := fun vs H Q _ => ∃ (F0 : Hp) (a : Addr) (ns : List Int), vs = [.ref a] ∧ (∀ H', Same F0 H' → SqL K H' a (ns.map V.int)) ∧ ns.length ≤ 63 ∧ Same F0 H ∧
  ∀ b gr fold F' H', gr ≠ b → 0 ≤ fold → fold < 2147483629 → Same F0 F' → (bagT b gr fold).Ok F' H' 0 → Q (.ref b) H'
end TM

/-! The holder: an instance whose fields change. -/
namespace TM
open PySem PySem.Spec L2
structure HSt where
  m : Mill
  rs : Rings
  tm : Tm
  sd : Sd
  n : Int
  c : Cause
abbrev causeV : Cause → V
  | none => .non
  | some s => .str s
theorem dt_causeV {F : Hp} (c : Cause) : Dt F (causeV c) (causeD c) := by
  cases c with
  | none => exact .non
  | some s => exact .str s
abbrev hF (vm vr vt vs : V) (n : Int) (c : Cause) : List (Str × V) := [("mill", vm), ("rings", vr), ("terms", vt), ("stand", vs), ("many", .int n), ("cause", causeV c)]
section
variable {G : Type} {J : JT G} {C h : Addr}
def JT.withH (J : JT G) (C h : Addr) : JT (G × HSt) where
  M := h :: J.M
  C F H gx := J.C F H gx.1 ∧ ∃ dx vm vr vt vs, H h = some (.ins C dx (hF vm vr vt vs gx.2.n gx.2.c)) ∧ Dt F vm (millD gx.2.m) ∧ Dt F vr (ringsD gx.2.rs) ∧ Dt F vt (tmD gx.2.tm) ∧ Dt F vs (sdD gx.2.sd)
  mono := fun p s1 s2 hm => by
    obtain ⟨h1, dx, vm, vr, vt, vs, h2, d1, d2, d3, d4⟩ := p
    exact ⟨J.mono h1 s1 s2 fun m hm' => hm m (.tail _ hm'), dx, vm, vr, vt, vs, by rw [hm _ (.head _)]; exact h2, d1.mono s1, d2.mono s1, d3.mono s1, d4.mono s1⟩
theorem JT.Ok.dropH {F H : Hp} {gx : G × HSt} (o : (J.withH C h).Ok F H gx) : J.Ok F H gx.1 := ⟨o.ex, fun m hm => o.mu m (.tail _ hm), o.c.1⟩
theorem hf_mill (vm vr vt vs : V) (n : Int) (c : Cause) : (hF vm vr vt vs n c).lookup ("mill" : Str) = some vm := by kernel_rfl
theorem hf_rings (vm vr vt vs : V) (n : Int) (c : Cause) : (hF vm vr vt vs n c).lookup ("rings" : Str) = some vr := by kernel_rfl
theorem hf_terms (vm vr vt vs : V) (n : Int) (c : Cause) : (hF vm vr vt vs n c).lookup ("terms" : Str) = some vt := by kernel_rfl
theorem hf_stand (vm vr vt vs : V) (n : Int) (c : Cause) : (hF vm vr vt vs n c).lookup ("stand" : Str) = some vs := by kernel_rfl
theorem hf_many (vm vr vt vs : V) (n : Int) (c : Cause) : (hF vm vr vt vs n c).lookup ("many" : Str) = some (.int n) := by kernel_rfl
theorem hf_cause (vm vr vt vs : V) (n : Int) (c : Cause) : (hF vm vr vt vs n c).lookup ("cause" : Str) = some (causeV c) := by kernel_rfl
theorem hf_tell (vm vr vt vs : V) (n : Int) (c : Cause) : (hF vm vr vt vs n c).lookup ("tell" : Str) = none := by kernel_rfl
theorem hf_parted (vm vr vt vs : V) (n : Int) (c : Cause) : (hF vm vr vt vs n c).lookup ("parted" : Str) = none := by kernel_rfl
theorem hp_stand (vm vr vt vs u : V) (n : Int) (c : Cause) : putF ("stand" : Str) u (hF vm vr vt vs n c) = hF vm vr vt u n c := by kernel_rfl
theorem hp_many (vm vr vt vs : V) (n k : Int) (c : Cause) : putF ("many" : Str) (.int k) (hF vm vr vt vs n c) = hF vm vr vt vs k c := by kernel_rfl
theorem hp_cause (vm vr vt vs : V) (n : Int) (c k : Cause) : putF ("cause" : Str) (causeV k) (hF vm vr vt vs n c) = hF vm vr vt vs n k := by kernel_rfl
theorem hp_init (vm vr vt vs : V) : putF ("cause" : Str) .non (putF ("many" : Str) (.int 0) (putF ("stand" : Str) vs (putF ("terms" : Str) vt (putF ("rings" : Str) vr (putF ("mill" : Str) vm []))))) = hF vm vr vt vs 0 none := by kernel_rfl
structure HTx (K : PySem.W.Frag) (C : Addr) : Prop where
  cl : Cls K C
  mill_ : NoAttr K C "mill"
  rings_ : NoAttr K C "rings"
  terms_ : NoAttr K C "terms"
  stand_ : NoAttr K C "stand"
  many_ : NoAttr K C "many"
  cause_ : NoAttr K C "cause"
variable {ds : DE} {K : PySem.W.Frag} {gx : G × HSt} {Φ : Dv → G × HSt → Prop} {te ta : TE} {E : Es (G × HSt)}
theorem sc_cause (c : Cause) : Sc (causeD c) (causeV c) := fun F v h => by
  cases c <;> cases h <;> rfl
theorem JT.Ok.setH {F H : Hp} {dx : Addr} {vm vr vt vs : V} {st : HSt} (o : (J.withH C h).Ok F H gx) (np : h ∉ J.M) (d1 : Dt F vm (millD st.m)) (d2 : Dt F vr (ringsD st.rs)) (d3 : Dt F vt (tmD st.tm)) (d4 : Dt F vs (sdD st.sd)) :
    (J.withH C h).Ok F (upd H h (.ins C dx (hF vm vr vt vs st.n st.c))) (gx.1, st) := by
  have fp : F h = none := (o.mu h (.head _)).1
  have k := o.dropH.put0 (p := h) (o := .ins C dx (hF vm vr vt vs st.n st.c)) fp np
  refine ⟨k.ex, fun m hm => ?_, k.c, dx, vm, vr, vt, vs, upd_same, d1, d2, d3, d4⟩
  cases hm with
  | head => exact ⟨fp, by rw [upd_same]; exact fun z => nomatch z⟩
  | tail _ hm => exact k.mu m hm
theorem we_h_mill (T : HTx K C) (hh : WE (J.withH C h) ds gx te fun d g1 => d = .raw (.ref h) ∧ Φ (millD g1.2.m) g1) : WE (J.withH C h) ds gx (tFld K te "mill") Φ := fun F H σ o e Q q =>
  hh F H σ o e _ fun v d F1 H1 g1 h1 o1 t1 dd => by
    obtain ⟨rfl, k⟩ := h1
    cases dd
    obtain ⟨_, dx, vm, vr, vt, vs, hI, d1, d2, d3, d4⟩ := o1.c
    exact ⟨h, C, dx, _, _, rfl, hI, T.cl, T.mill_, hf_mill _ _ _ _ _ _, q _ _ F1 H1 g1 k o1 t1 d1⟩
theorem we_h_rings (T : HTx K C) (hh : WE (J.withH C h) ds gx te fun d g1 => d = .raw (.ref h) ∧ Φ (ringsD g1.2.rs) g1) : WE (J.withH C h) ds gx (tFld K te "rings") Φ := fun F H σ o e Q q =>
  hh F H σ o e _ fun v d F1 H1 g1 h1 o1 t1 dd => by
    obtain ⟨rfl, k⟩ := h1
    cases dd
    obtain ⟨_, dx, vm, vr, vt, vs, hI, d1, d2, d3, d4⟩ := o1.c
    exact ⟨h, C, dx, _, _, rfl, hI, T.cl, T.rings_, hf_rings _ _ _ _ _ _, q _ _ F1 H1 g1 k o1 t1 d2⟩
theorem we_h_terms (T : HTx K C) (hh : WE (J.withH C h) ds gx te fun d g1 => d = .raw (.ref h) ∧ Φ (tmD g1.2.tm) g1) : WE (J.withH C h) ds gx (tFld K te "terms") Φ := fun F H σ o e Q q =>
  hh F H σ o e _ fun v d F1 H1 g1 h1 o1 t1 dd => by
    obtain ⟨rfl, k⟩ := h1
    cases dd
    obtain ⟨_, dx, vm, vr, vt, vs, hI, d1, d2, d3, d4⟩ := o1.c
    exact ⟨h, C, dx, _, _, rfl, hI, T.cl, T.terms_, hf_terms _ _ _ _ _ _, q _ _ F1 H1 g1 k o1 t1 d3⟩
theorem we_h_stand (T : HTx K C) (hh : WE (J.withH C h) ds gx te fun d g1 => d = .raw (.ref h) ∧ Φ (sdD g1.2.sd) g1) : WE (J.withH C h) ds gx (tFld K te "stand") Φ := fun F H σ o e Q q =>
  hh F H σ o e _ fun v d F1 H1 g1 h1 o1 t1 dd => by
    obtain ⟨rfl, k⟩ := h1
    cases dd
    obtain ⟨_, dx, vm, vr, vt, vs, hI, d1, d2, d3, d4⟩ := o1.c
    exact ⟨h, C, dx, _, _, rfl, hI, T.cl, T.stand_, hf_stand _ _ _ _ _ _, q _ _ F1 H1 g1 k o1 t1 d4⟩
theorem we_h_many (T : HTx K C) (hh : WE (J.withH C h) ds gx te fun d g1 => d = .raw (.ref h) ∧ Φ (.int g1.2.n) g1) : WE (J.withH C h) ds gx (tFld K te "many") Φ := fun F H σ o e Q q =>
  hh F H σ o e _ fun v d F1 H1 g1 h1 o1 t1 dd => by
    obtain ⟨rfl, k⟩ := h1
    cases dd
    obtain ⟨_, dx, vm, vr, vt, vs, hI, d1, d2, d3, d4⟩ := o1.c
    exact ⟨h, C, dx, _, _, rfl, hI, T.cl, T.many_, hf_many _ _ _ _ _ _, q _ _ F1 H1 g1 k o1 t1 (.int _)⟩
theorem we_h_cause (T : HTx K C) (hh : WE (J.withH C h) ds gx te fun d g1 => d = .raw (.ref h) ∧ Φ (causeD g1.2.c) g1) : WE (J.withH C h) ds gx (tFld K te "cause") Φ := fun F H σ o e Q q =>
  hh F H σ o e _ fun v d F1 H1 g1 h1 o1 t1 dd => by
    obtain ⟨rfl, k⟩ := h1
    cases dd
    obtain ⟨_, dx, vm, vr, vt, vs, hI, d1, d2, d3, d4⟩ := o1.c
    exact ⟨h, C, dx, _, _, rfl, hI, T.cl, T.cause_, hf_cause _ _ _ _ _ _, q _ _ F1 H1 g1 k o1 t1 (dt_causeV _)⟩
theorem ws_h_stand (T : HTx K C) (np : h ∉ J.M) (hh : WE (J.withH C h) ds gx te fun d g1 => ∃ sd, d = sdD sd ∧ WE (J.withH C h) ds g1 ta fun x g2 => x = .raw (.ref h) ∧ E.nx ds (g2.1, { g2.2 with sd := sd })) : WS (J.withH C h) ds gx (sFld K ta te "stand") E := fun F H σ o e D nn r b c =>
  hh F H σ o e _ fun v d F1 H1 g1 h1 o1 t1 dv => by
    obtain ⟨sd, rfl, h1⟩ := h1
    refine h1 F1 H1 σ o1 (e.mono t1.f) _ fun u x F2 H2 g2 h2 o2 t2 dx2 => ?_
    obtain ⟨rfl, k⟩ := h2
    cases dx2
    obtain ⟨_, dx, vm, vr, vt, vs, hI, d1, d2, d3, d4⟩ := o2.c
    refine ⟨h, C, dx, _, rfl, hI, T.cl, T.stand_, by show 6 < 1000; decide, ?_⟩
    have dv := dv.mono t2.f
    rw [hp_stand]
    exact nn σ ds F2 _ _ k (o2.setH (st := { g2.2 with sd := sd }) np d1 d2 d3 dv) ((t1.trans t2).trans (tr_upd (J := J.withH C h) (.head _))) (e.mono (t1.trans t2).f)
theorem ws_h_many (T : HTx K C) (np : h ∉ J.M) (hh : WE (J.withH C h) ds gx te fun d g1 => ∃ n, d = .int n ∧ WE (J.withH C h) ds g1 ta fun x g2 => x = .raw (.ref h) ∧ E.nx ds (g2.1, { g2.2 with n := n })) : WS (J.withH C h) ds gx (sFld K ta te "many") E := fun F H σ o e D nn r b c =>
  hh F H σ o e _ fun v d F1 H1 g1 h1 o1 t1 dv => by
    obtain ⟨n, rfl, h1⟩ := h1
    refine h1 F1 H1 σ o1 (e.mono t1.f) _ fun u x F2 H2 g2 h2 o2 t2 dx2 => ?_
    obtain ⟨rfl, k⟩ := h2
    cases dx2
    obtain ⟨_, dx, vm, vr, vt, vs, hI, d1, d2, d3, d4⟩ := o2.c
    refine ⟨h, C, dx, _, rfl, hI, T.cl, T.many_, by show 6 < 1000; decide, ?_⟩
    cases dv
    rw [hp_many]
    exact nn σ ds F2 _ _ k (o2.setH (st := { g2.2 with n := n }) np d1 d2 d3 d4) ((t1.trans t2).trans (tr_upd (J := J.withH C h) (.head _))) (e.mono (t1.trans t2).f)
theorem ws_h_cause (T : HTx K C) (np : h ∉ J.M) (hh : WE (J.withH C h) ds gx te fun d g1 => ∃ c, d = causeD c ∧ WE (J.withH C h) ds g1 ta fun x g2 => x = .raw (.ref h) ∧ E.nx ds (g2.1, { g2.2 with c := c })) : WS (J.withH C h) ds gx (sFld K ta te "cause") E := fun F H σ o e D nn r b c =>
  hh F H σ o e _ fun v d F1 H1 g1 h1 o1 t1 dv => by
    obtain ⟨c, rfl, h1⟩ := h1
    refine h1 F1 H1 σ o1 (e.mono t1.f) _ fun u x F2 H2 g2 h2 o2 t2 dx2 => ?_
    obtain ⟨rfl, k⟩ := h2
    cases dx2
    obtain ⟨_, dx, vm, vr, vt, vs, hI, d1, d2, d3, d4⟩ := o2.c
    refine ⟨h, C, dx, _, rfl, hI, T.cl, T.cause_, by show 6 < 1000; decide, ?_⟩
    have ev := sc_cause c _ _ dv
    subst ev
    rw [hp_cause]
    exact nn σ ds F2 _ _ k (o2.setH (st := { g2.2 with c := c }) np d1 d2 d3 d4) ((t1.trans t2).trans (tr_upd (J := J.withH C h) (.head _))) (e.mono (t1.trans t2).f)
end
/-- a method's promise -/
abbrev DSH := List Dv → HSt → (Dv → HSt → Prop) → Prop
def spH (C : Addr) (S : DSH) : Sp := fun vs H Q _ => ∃ (G : Type) (J : JT G) (h : Addr) (F : Hp) (g : G) (st : HSt) (es : List Dv) (Φ : Dv → HSt → Prop), h ∉ J.M ∧ (J.withH C h).Ok F H (g, st) ∧ DtAll F vs (.raw (.ref h) :: es) ∧ S es st Φ ∧
  ∀ v d F' H' st', Φ d st' → (J.withH C h).Ok F' H' (g, st') → Tr (J.withH C h) F H F' H' → Dt F' v d → Q v H'
/-- what a telling does -/
def tellM (st : HSt) (e : Ev) : HSt := match st.c with
  | some _ => st
  | none => match causeOf st.m st.rs st.tm st.sd e with
    | some c => { st with c := some c }
    | none => { st with c := none, sd := takenUp st.m st.rs st.sd e, n := st.n + 1 }
def S_tell : DSH := fun es st Φ => ∃ e : Ev, es = [evD e] ∧ st.m.ok ∧ Rings.ok st.m st.rs ∧ (st.c = none → st.sd.ok st.m) ∧ Φ (causeD (tellM st e).c) (tellM st e)
def S_parted : DSH := fun es st Φ => es = [] ∧ Φ (partD (st.c.map fun c => (st.n, c))) st
def S_parting : DS := fun G J es g Φ => ∃ (m : Mill) (st : Stt) (rs : Rings) (tm : Tm) (evs : List Ev), es = [millD m, sttD st, ringsD rs, tmD tm, .lst (evs.map evD)] ∧ m.ok ∧ Rings.ok m rs ∧ SdB m 0 (firstStand st) ∧ evs.length ≤ 100 ∧ Φ (partD (part m rs tm 0 (firstStand st) evs)) g
end TM

/-! Methods of the holder: contracts and calls. -/
namespace TM
open PySem PySem.Spec L2
section
variable {X : Cx} {K : PySem.W.Frag} {e value o : Expr} {f : Str} {pos pos' : Pos} {ta tv : TE}
theorem k_fld (h : X.K = K) (he : PE X e ta) (hb : attributeBase e f X.env (eval e X.env) = eval e X.env) : PE X (.Attribute e f pos) (tFld K ta f) := h ▸ pe_fld he hb
theorem k_sfld (h : X.K = K) (ha : PE X o ta) (hv : PE X value tv) (hs : swapsWith value (some (.Attribute o f pos')) pos.line X.env = pure false) : PS X (.Assign [.Attribute o f pos'] value pos) (sFld K ta tv f) := h ▸ ps_fld ha hv hs
end
structure FuM (K : PySem.W.Frag) (C : Addr) (x qual : Str) (ps : List Str) (st : Stmt) : Prop where
  ex : ∃ f fd, Fun K x qual st f fd ∧ Meth K C x f ∧ Binds K fd ps []
structure Mt (P : Program) (w : World) (K : PySem.W.Frag) (mg : Str → Option Value) (base : Heap) (C : Addr) (x : Str) (n : Nat) (ps : List Str) (sp : Sp) : Prop where
  ex : ∃ f fd, FnOk P w K mg base CX0 n f fd ps sp ∧ Meth K C x f ∧ Binds K fd ps []
structure Mki (P : Program) (w : World) (K : PySem.W.Frag) (mg : Str → Option Value) (base : Heap) (C : Addr) (n : Nat) (ps : List Str) (sp : Sp) : Prop where
  ex : ∃ f fd, FnOk P w K mg base CX0 n f fd ps sp ∧ Mk K C f ∧ Binds K fd ps []
section
variable {X : Cx} {C : Addr} {x : Str} {n : Nat} {ps : List Str} {sp : Sp} {e o : Expr} {es : List Expr} {t : TA} {ta : TE} {p pos apos : Pos}
theorem pe_mt {pl : Sem Bool} (M : Mt X.prog X.w X.K X.mg X.base C x n ps sp) (c : Cls X.K C) (hr : Room n X.A) (he : PE X o ta) (ha : PA X (e :: es) t)
    (hst : starEach (e :: es) X.env = (false, eval e X.env) :: starEach es X.env := by rfl) (hpl : (backTo pos (starEach es X.env)).any (·.1) = false := by rfl)
    (ht : eval (.Call (.Attribute o x apos) (e :: es) [] pos) X.env = (do
      let ov ← eval o X.env
      standAt apos.atName
      let (f, first) ← holding [ov] (getMethod ov x pl)
      callWith pos f first (backTo pos (starEach (e :: es) X.env)) (backToKw pos (keywordEach [] X.env))) := by rfl) : PE X (.Call (.Attribute o x apos) (e :: es) [] pos) (tMeth C x sp [] E0 ta t) := by
  obtain ⟨f, fd, F, m, b⟩ := M.ex
  exact pe_meth he c m F hr b .nil pass0 ha hst hpl ht
theorem pe_mt0 {pl : Sem Bool} (M : Mt X.prog X.w X.K X.mg X.base C x n ps sp) (c : Cls X.K C) (hr : Room n X.A) (he : PE X o ta)
    (ht : eval (.Call (.Attribute o x apos) [] [] pos) X.env = (do
      let ov ← eval o X.env
      standAt apos.atName
      let (f, first) ← holding [ov] (getMethod ov x pl)
      callWith pos f first (backTo pos (starEach [] X.env)) (backToKw pos (keywordEach [] X.env))) := by rfl) : PE X (.Call (.Attribute o x apos) [] [] pos) (tMeth C x sp [] E0 ta tNil) := by
  obtain ⟨f, fd, F, m, b⟩ := M.ex
  exact pe_meth0 he c m F hr b .nil pass0 ht
theorem pe_mki (M : Mki X.prog X.w X.K X.mg X.base C n ps sp) (hr : Room (n + 1) X.A) (hg : Gl X x) (hm : X.mg x = some (.ref C)) (ha : PA X (e :: es) t) (hdb : (x == ("__debug__" : Str)) = false := by decide)
    (he : starEach (e :: es) X.env = (false, eval e X.env) :: starEach es X.env := by rfl) (hpl : (backTo pos (starEach es X.env)).any (·.1) = false := by rfl) : PE X (.Call (.Name x p) (e :: es) [] pos) (tMake C sp [] E0 t) := by
  obtain ⟨f, fd, F, m, b⟩ := M.ex
  exact pe_make m F hr hg hm b .nil pass0 ha hdb he hpl
end
section
variable {P : Program} {w : World} {K : PySem.W.Frag} {mg : Str → Option Value} {base : Heap} {C : Addr}
theorem FuM.okH {x qual : Str} {ps N : List Str} {st : Stmt} {n : Nat} {S : DSH} (F : FuM K C x qual ps st) (Sc : FnScope N ps (defScope st)) (hl : ∀ es hs Φ, S es hs Φ → es.length + 1 = ps.length)
    (hb : ∀ (f : Addr) (cdv : Value) (A : Around) (outer : List PySem.Env) (s : Shared) (H : Hp) (E : XK), Room n (A.deeper (PyProof.Rows.envOfC qual (defScope st) s.heap.objs.size f cdv)) →
      ∃ t, PSs (cxOf CX0 P w K mg base N qual (defScope st) f cdv A outer s H E).nox (defBody st) t ∧ ∀ (G : Type) (J : JT G) (h : Addr) es g hs Φ, h ∉ J.M → S es hs Φ →
        WS (J.withH C h) ((Dv.raw (.ref h) :: es).map some ++ List.replicate (N.length - ps.length) none) (g, hs) t { nx := fun _ gx => gx.1 = g ∧ Φ .non gx.2, rt := fun d gx => gx.1 = g ∧ Φ d gx.2 }) : Mt P w K mg base C x (n + 1) ps (spH C S) := by
  obtain ⟨f, fd, F, m, b⟩ := F.ex
  refine ⟨f, fd, F.ok Sc (fun vs H Q E h => ?_) (fun cdv A outer s H vs Q E hr h => ?_), m, b⟩
  · obtain ⟨G, J, h, F0, g, hs, es, Φ, nh, o, d, hS, q⟩ := h
    rw [d.length]
    exact hl es hs Φ hS
  · obtain ⟨G, J, h, F0, g, hs, es, Φ, nh, o, d, hS, q⟩ := h
    obtain ⟨t, ht, hw⟩ := hb f cdv A outer s H E hr
    refine ⟨t, ht, hw G J h es g hs Φ nh hS F0 H _ o ?_ _ (fun σ' ds' F' H' gx h' o' t' e' => ?_) (fun v d F' H' gx h' o' t' d' => ?_) (fun _ _ _ _ _ z => z.elim) (fun _ _ _ _ _ z => z.elim)⟩
    · unfold L2.start
      have e := hl es hs Φ hS
      have e2 := d.length
      rw [e2, List.length_cons, e]
      exact Env.args d (Env.nones _)
    · obtain ⟨g', hs'⟩ := gx
      obtain ⟨rfl, h'⟩ := h'
      exact q _ _ F' H' hs' h' o' t' .non
    · obtain ⟨g', hs'⟩ := gx
      obtain ⟨rfl, h'⟩ := h'
      exact q v d F' H' hs' h' o' t' d'
end
section
variable {G : Type} {J : JT G} {C h : Addr} {ds : DE} {gx : G × HSt} {Φ : Dv → G × HSt → Prop} {te : TE} {X : XK}
theorem we_mt {S : DSH} {ta : TA} {m : Str} (np : h ∉ J.M) (hm : ∀ vm vr vt vs n c, (hF vm vr vt vs n c).lookup m = none) (hh : WE (J.withH C h) ds gx te fun d g1 => d = .raw (.ref h) ∧ WA (J.withH C h) ds g1 ta fun es g2 => S es g2.2 fun d st' => Φ d (g2.1, st')) :
    WE (J.withH C h) ds gx (tMeth C m (spH C S) [] X te ta) Φ := fun F H σ o e Q q =>
  hh F H σ o e _ fun v d F1 H1 g1 h1 o1 t1 dv => by
    obtain ⟨rfl, h1⟩ := h1
    cases dv
    obtain ⟨_, dx, vm, vr, vt, vs, hI, d1, d2, d3, d4⟩ := o1.c
    refine ⟨h, dx, _, rfl, hI, hm _ _ _ _ _ _, h1 F1 H1 σ o1 (e.mono t1.f) _ fun us es F2 H2 g2 h2 o2 t2 d2 => ?_⟩
    show spH C S (.ref h :: (us ++ [])) H2 Q X
    rw [List.append_nil]
    exact ⟨G, J, h, F2, g2.1, g2.2, es, _, np, o2, .cons (.raw _) d2, h2, fun w d3 F3 H3 st3 h3 o3 t3 dd3 => q w d3 F3 H3 (g2.1, st3) h3 o3 ((t1.trans t2).trans t3) dd3⟩
end
def spInit (C : Addr) : Sp := fun vs H Q _ => ∃ (G : Type) (J : JT G) (F : Hp) (g : G) (x dx : Addr) (m : Mill) (st : Stt) (rs : Rings) (tm : Tm) (vm vst vr vt : V), vs = [.ref x, vm, vst, vr, vt] ∧ J.Ok F H g ∧ F x = none ∧ x ∉ J.M ∧ H x = some (.ins C dx []) ∧
  Dt F vm (millD m) ∧ Dt F vst (sttD st) ∧ Dt F vr (ringsD rs) ∧ Dt F vt (tmD tm) ∧ ∀ F' H', (J.withH C x).Ok F' H' (g, ⟨m, rs, tm, firstStand st, 0, none⟩) → Tr (J.withH C x) F H F' H' → Q .non H'
end TM

/-! A holder made; what it has come to behind a diary. -/
namespace TM
open PySem PySem.Spec L2
section
variable {G : Type} {J : JT G} {C : Addr} {ds : DE} {g : G} {ta : TA} {t : TS} {E : Es G} {X : XK}
def Es.withH (E : Es G) : Es (G × HSt) where
  nx := fun ds gx => E.nx ds gx.1
  rt := fun d gx => E.rt d gx.1
  bk := fun ds gx => E.bk ds gx.1
  ct := fun ds gx => E.ct ds gx.1
theorem ws_newH {i : Nat} {f : Dv → DE} [c : SetF ds i f] (hh : WA J ds g ta fun es g1 => ∃ (m : Mill) (st : Stt) (rs : Rings) (tm : Tm), es = [millD m, sttD st, ringsD rs, tmD tm] ∧
      ∀ x, x ∉ J.M → WS (J.withH C x) (f (.raw (.ref x))) (g1, ⟨m, rs, tm, firstStand st, 0, none⟩) t E.withH) : WS J ds g (tSeq (tAsg (tMake C (spInit C) [] X ta) (gName i)) t) E := fun F H σ o e D n r b ct =>
  hh F H σ o e _ fun vs es F1 H1 g1 h1 o1 t1 d1 => by
    obtain ⟨m, st, rs, tm, rfl, hw⟩ := h1
    cases d1 with
    | cons da d1 =>
    cases d1 with
    | cons db d1 =>
    cases d1 with
    | cons dc d1 =>
    cases d1 with
    | cons dd d1 =>
    cases d1
    intro x dx hx hdx ne
    have nx := o1.nomem hx
    have fx := o1.fnone hx
    have o2 := o1.put0 (o := .own x) (o1.fnone hdx) (o1.nomem hdx)
    have o3 := o2.put0 (o := .ins C dx []) fx nx
    refine ⟨G, J, F1, g1, x, dx, m, st, rs, tm, _, _, _, _, rfl, o3, fx, nx, upd_same, da, db, dc, dd, fun F2 H2 oH tH => ⟨rfl, ?_⟩⟩
    have eσ : Env F2 (σ.set i (some (.ref x))) (f (.raw (.ref x))) := by
      rw [← c.h]
      exact (e.mono (t1.f.trans tH.f)).set (.raw _) i
    have hn : ∀ a, H1 a ≠ none → a ≠ x ∧ upd (upd H1 dx (.own x)) x (.ins C dx []) a = H1 a := fun a ha => by
      have e1 : a ≠ x := fun z => ha (by rw [z]; exact hx)
      have e2 : a ≠ dx := fun z => ha (by rw [z]; exact hdx)
      exact ⟨e1, by rw [upd_ne e1, upd_ne e2]⟩
    have fin : ∀ {F3 H3 : Hp}, Tr (J.withH C x) F2 H2 F3 H3 → Tr J F H F3 H3 := fun {F3 H3} t3 => by
      have tt := tH.trans t3
      refine t1.trans ⟨tt.f, fun a u ha hm => ?_, fun a ha hf => ?_, fun a ha => ?_⟩
      · obtain ⟨e1, e2⟩ := hn a (by rw [ha]; exact fun z => nomatch z)
        refine tt.h a u (by rw [e2]; exact ha) fun z => ?_
        cases z with
        | head => exact e1 rfl
        | tail _ z => exact hm z
      · obtain ⟨e1, e2⟩ := hn a ha
        exact tt.n a (by rw [e2]; exact ha) hf
      · obtain ⟨e1, e2⟩ := hn a ha
        exact tt.k a (by rw [e2]; exact ha)
    exact hw x nx F2 H2 _ oH eσ D (fun σ' ds' F3 H3 gx h3 o3 t3 e3 => n σ' ds' F3 H3 gx.1 h3 o3.dropH (fin t3) e3) (fun v d F3 H3 gx h3 o3 t3 d3 => r v d F3 H3 gx.1 h3 o3.dropH (fin t3) d3)
      (fun σ' ds' F3 H3 gx h3 o3 t3 e3 => b σ' ds' F3 H3 gx.1 h3 o3.dropH (fin t3) e3) (fun σ' ds' F3 H3 gx h3 o3 t3 e3 => ct σ' ds' F3 H3 gx.1 h3 o3.dropH (fin t3) e3)
end
theorem tell_some {st : HSt} {c : Str} (h : st.c = some c) (e : Ev) : tellM st e = st := by
  unfold tellM
  rw [h]
theorem fold_some {c : Str} : ∀ (evs : List Ev) (st : HSt), st.c = some c → evs.foldl tellM st = st
  | [], _, _ => rfl
  | e :: evs, st, h => by
    rw [List.foldl_cons, tell_some h]
    exact fold_some evs st h
theorem fold_part : ∀ (evs : List Ev) (st : HSt), st.c = none → (evs.foldl tellM st).c.map (fun c => ((evs.foldl tellM st).n, c)) = part st.m st.rs st.tm st.n st.sd evs
  | [], st, h => by
    rw [List.foldl_nil, h]
    rfl
  | e :: evs, st, h => by
    rw [List.foldl_cons]
    cases hc : causeOf st.m st.rs st.tm st.sd e with
    | none =>
      have q : tellM st e = { st with c := none, sd := takenUp st.m st.rs st.sd e, n := st.n + 1 } := by
        unfold tellM
        rw [h]
        simp only [hc]
      rw [q, fold_part evs _ rfl, part_none hc]
    | some c =>
      have q : tellM st e = { st with c := some c } := by
        unfold tellM
        rw [h]
        simp only [hc]
      rw [q, fold_some evs _ rfl, part_cause hc]
      rfl
structure TI (m : Mill) (rs : Rings) (tm : Tm) (k : Nat) (st : HSt) : Prop where
  em : st.m = m
  er : st.rs = rs
  et : st.tm = tm
  b : st.c = none → SdB m k st.sd
theorem tell_inv {m : Mill} {rs : Rings} {tm : Tm} {k : Nat} {st : HSt} (hm : m.ok) (hr : Rings.ok m rs) (h : TI m rs tm k st) (e : Ev) : TI m rs tm (k + 1) (tellM st e) := by
  obtain ⟨rfl, rfl, rfl, hb⟩ := h
  cases hc0 : st.c with
  | some c =>
    rw [tell_some hc0]
    exact ⟨rfl, rfl, rfl, fun z => by rw [hc0] at z; cases z⟩
  | none =>
    unfold tellM
    rw [hc0]
    cases hc : causeOf st.m st.rs st.tm st.sd e with
    | none =>
      simp only [hc]
      exact ⟨rfl, rfl, rfl, fun _ => taken_ok hm hr (hb hc0) (fits_of hc)⟩
    | some c =>
      simp only [hc]
      exact ⟨rfl, rfl, rfl, fun z => nomatch z⟩
end TM

/-! The law's own def. -/
namespace TM
open PySem PySem.Spec L2
section
variable {G : Type} {J : JT G} {ds : DE} {g : G} {t u : TS} {D : Ends}
def WSr (J : JT G) (ds : DE) (g : G) (t : TS) (D : Ends) : Prop := ∀ (F H : Hp) (σ : St), J.Ok F H g → Env F σ ds → t D σ H
theorem wsr_seq (h : WS J ds g t { nx := fun ds' g' => WSr J ds' g' u D, rt := fun _ _ => False }) : WSr J ds g (tSeq t u) D := fun F H σ o e =>
  h F H σ o e { D with nx := u D } (fun σ' ds' F' H' g' hp o' t' e' => hp F' H' σ' o' e') (fun _ _ _ _ _ z => z.elim) (fun _ _ _ _ _ z => z.elim) (fun _ _ _ _ _ z => z.elim)
theorem wsr_last (hD : ∀ H', D.rt (.bl true) H') (h : WS J ds g t { nx := fun _ _ => False, rt := fun d _ => d = .bl true }) : WSr J ds g t D := fun F H σ o e =>
  h F H σ o e D (fun _ _ _ _ _ z => z.elim) (fun v d F' H' g' hp o' t' d' => by
    subst hp
    cases d'
    exact hD H') (fun _ _ _ _ _ z => z.elim) (fun _ _ _ _ _ z => z.elim)
end
def bmpN (_ n : Nat) : Nat := n
theorem bagN {b gr : Addr} {fold : Int} (ne : gr ≠ b) (f0 : 0 ≤ fold) (f1 : fold < 2147483629) : BagJ (bagT b gr fold) b gr fold (fun n => n) bmpN := bagT_bag ne f0 f1
def spLaw (K : PySem.W.Frag) : Sp := fun vs H Q _ => ∃ (a : Addr) (ns : List Int), vs = [.ref a] ∧ SqL K H a (ns.map V.int) ∧ ns.length ≤ 63 ∧ ∀ H', Q (.bl true) H'
theorem so1 : PyData.strOk ("end" : Str) = true := by decide +kernel
theorem so2 : PyData.strOk ("late" : Str) = true := by decide +kernel
theorem so3 : PyData.strOk ("down" : Str) = true := by decide +kernel
theorem so4 : PyData.strOk ("bell" : Str) = true := by decide +kernel
theorem so5 : PyData.strOk ("spot" : Str) = true := by decide +kernel
theorem so6 : PyData.strOk ("cell" : Str) = true := by decide +kernel
theorem ok_ev (e : Ev) : okPy 2 (evD e) = true := by
  cases e with
  | fin b p w =>
    cases w with
    | no => simp [okPy, so1]
    | spot d v => cases v <;> simp [okPy, so1, so5]
    | cell d v => cases v <;> simp [okPy, so1, so6]
  | late b n w => simp [okPy, so2]
  | down b n i w => simp [okPy, so3]
  | bell b k => simp [okPy, so4]
theorem ok_evs (evs : List Ev) : (evs.map evD).all (okPy 2) = true := by
  rw [List.all_map, List.all_eq_true]
  intro x _
  exact ok_ev x
section
variable {G : Type} {J : JT G} {g : G} {Φ : Dv → G → Prop} {K : PySem.W.Frag}
theorem ro_eq_self {d : Dv} (n : Nat) (hn : n ≤ 64) (ho : okPy n d = true) (k : Φ (.bl true) g) : RO J (rEqU K) d d g Φ := ro_eq_d n hn ho ho (by
  rw [PySem.SeqAt.eqv_refl (toPy n d) (lay_py n d ho).1]
  exact k)
end
theorem ok_rings (rs : Rings) : (rs.map riD).all (okPy 1) = true := by
  rw [List.all_map, List.all_eq_true]
  intro x _
  rfl
end TM
namespace TM
open PySem PySem.Spec L2
theorem funR {P : Program} {w : World} {K : PySem.W.Frag} {mg : Str → Option Value} {base : Heap} {x : Str} {ps N : List Str} {st : Stmt} {n : Nat} {sp : Sp} {f : Addr} {fd : FuncData} (F : Fun K x x st f fd) (Sc : FnScope N ps (defScope st)) (hl : ∀ vs H Q E, sp vs H Q E → vs.length = ps.length)
    (hb : ∀ (f : Addr) (cdv : Value) (A : Around) (outer : List PySem.Env) (s : Shared) (H : Hp) (E : XK), Room n (A.deeper (PyProof.Rows.envOfC x (defScope st) s.heap.objs.size f cdv)) →
      ∃ t, PSs (cxOf CX0 P w K mg base N x (defScope st) f cdv A outer s H E).nox (defBody st) t ∧ ∀ vs Q, sp vs H Q E → ∀ D : Ends, (∀ σ H', Q .non H' → D.nx σ H') → (∀ v H', Q v H' → D.rt v H') → t D (L2.start N vs) H) : FnOk P w K mg base CX0 (n + 1) f fd ps sp := by
  refine F.ok Sc hl (fun cdv A outer s H vs Q E hr h => ?_)
  obtain ⟨t, ht, hw⟩ := hb f cdv A outer s H E hr
  exact ⟨t, ht, hw vs Q h { nx := fun _ H' => Q .non H', rt := Q } (fun σ H' z => z) (fun v H' z => z)⟩
end TM

namespace TM
open PySem PySem.Spec L2
section
local macro_rules | `(tactic| walk_at "R") => `(tactic| (repeat (first | (first | ((with_reducible show WE _ _ _ _ _); with_reducible first | refine we_var ?_ | refine we_str ?_ | refine we_int ?_ | refine we_op ?_ | refine we_call ?_ | refine we_cb ?_ | refine we_tup ?_ | refine we_lst ?_ | refine we_sl ?_ | refine we_non ?_ | refine we_bl ?_ | refine we_un ?_ | refine we_dget ?_ | refine we_andV ?_ | refine we_orV ?_ | refine we_notV ?_ | refine we_ty ?_) | ((with_reducible show RO _ _ _ _ _ _); with_reducible first | refine ro_ix_t ?_ | refine ro_eq_s ?_ | refine ro_eq_i ?_ | refine ro_is ?_ | refine ro_isnt ?_ | refine ro_ix_l ?_ | refine ro_add_i ?_ | refine ro_ne_i ?_ | refine ro_sub ?_ | refine ro_lt ?_ | refine ro_le ?_ | refine ro_gt ?_ | refine ro_ge ?_ | refine ro_mod ?_ | refine ro_ne_s ?_ | refine ro_ne_b ?_ | refine ro_ix_tE ?_ | refine ro_ix_lE ?_) | ((with_reducible show WS _ _ _ _ _); with_reducible first | refine ws_seq ?_ | refine ws_set ?_ | refine ws_if ?_ | refine ws_ret ?_ | refine ws_next ?_ | refine ws_retN ?_ | refine ws_drop ?_ | refine ws_asg ?_) | ((with_reducible show WT _ _ _ _ _); with_reducible first | refine wt_test ?_ | refine wt_or ?_ | refine wt_and ?_ | refine wt_not ?_ | refine wt_B ?_ | refine wt_yes ?_) | ((with_reducible show WA _ _ _ _ _); with_reducible first | refine wa_cons ?_ | refine wa_nil ?_) | (with_reducible first | refine wg_name ?_ | refine wgs_cons ?_ | refine wgs_nil ?_ | refine wg_tup ?_ | refine wo_none ?_ | refine wo_some ?_ | refine rc_len_l ?_ | refine rc_len_t ?_ | refine rc_int_b ?_ | refine rs_t ?_ | refine rs_l ?_ | refine ru_neg ?_) | refine ⟨_, rfl, ?_⟩ | refine ⟨rfl, ?_⟩ | refine ⟨Nat.le_of_ble_eq_true rfl, ?_⟩ | refine ⟨by decide, ?_⟩ | refine ⟨_, _, rfl, ?_⟩ | refine ⟨_, _, _, rfl, ?_⟩ | refine ⟨_, at_cons0, ?_⟩ | refine ⟨_, at_ints (by omega), ?_⟩) | (first | refine i_t (by decide +kernel) ?_ | refine i_f (by decide +kernel) ?_ | refine i_t rfl ?_ | refine i_f rfl ?_ | (refine i_t ?_ ?_; focus (simp; done)) | (refine i_f ?_ ?_; focus (simp; done))))))
local macro_rules | `(tactic| walk_at "Q") => `(tactic| (repeat (first | (first | ((with_reducible show WE _ _ _ _ _); with_reducible first | refine we_var ?_ | refine we_str ?_ | refine we_int ?_ | refine we_op ?_ | refine we_call ?_ | refine we_cb ?_ | refine we_tup ?_ | refine we_lst ?_ | refine we_sl ?_ | refine we_non ?_ | refine we_bl ?_ | refine we_un ?_ | refine we_dget ?_ | refine we_andV ?_ | refine we_orV ?_ | refine we_notV ?_ | refine we_ty ?_) | ((with_reducible show RO _ _ _ _ _ _); with_reducible first | refine ro_ix_t ?_ | refine ro_eq_s ?_ | refine ro_eq_i ?_ | refine ro_is ?_ | refine ro_isnt ?_ | refine ro_ix_l ?_ | refine ro_add_i ?_ | refine ro_ne_i ?_ | refine ro_sub ?_ | refine ro_lt ?_ | refine ro_le ?_ | refine ro_gt ?_ | refine ro_ge ?_ | refine ro_mod ?_ | refine ro_ne_s ?_ | refine ro_ne_b ?_ | refine ro_ix_tE ?_ | refine ro_ix_lE ?_) | ((with_reducible show WS _ _ _ _ _); with_reducible first | refine ws_seq ?_ | refine ws_set ?_ | refine ws_if ?_ | refine ws_ret ?_ | refine ws_next ?_ | refine ws_retN ?_ | refine ws_drop ?_ | refine ws_asg ?_) | ((with_reducible show WT _ _ _ _ _); with_reducible first | refine wt_test ?_ | refine wt_not ?_ | refine wt_B ?_ | refine wt_yes ?_) | ((with_reducible show WA _ _ _ _ _); with_reducible first | refine wa_cons ?_ | refine wa_nil ?_) | (with_reducible first | refine wg_name ?_ | refine wgs_cons ?_ | refine wgs_nil ?_ | refine wg_tup ?_ | refine wo_none ?_ | refine wo_some ?_ | refine rc_len_l ?_ | refine rc_len_t ?_ | refine rc_int_b ?_ | refine rs_t ?_ | refine rs_l ?_ | refine ru_neg ?_) | refine ⟨_, rfl, ?_⟩ | refine ⟨rfl, ?_⟩ | refine ⟨Nat.le_of_ble_eq_true rfl, ?_⟩ | refine ⟨by decide, ?_⟩ | refine ⟨_, _, rfl, ?_⟩ | refine ⟨_, _, _, rfl, ?_⟩ | refine ⟨_, at_cons0, ?_⟩ | refine ⟨_, at_ints (by omega), ?_⟩) | (first | refine i_t (by decide +kernel) ?_ | refine i_f (by decide +kernel) ?_ | refine i_t rfl ?_ | refine i_f rfl ?_ | (refine i_t ?_ ?_; focus (simp; done)) | (refine i_f ?_ ?_; focus (simp; done))))))
local macro_rules | `(tactic| walk_at "X") => `(tactic| (repeat (first | (first | ((with_reducible show WE _ _ _ _ _); with_reducible first | refine we_var ?_ | refine we_str ?_ | refine we_int ?_ | refine we_op ?_ | refine we_call ?_ | refine we_cb ?_ | refine we_tup ?_ | refine we_lst ?_ | refine we_sl ?_ | refine we_non ?_ | refine we_bl ?_ | refine we_un ?_ | refine we_dget ?_ | refine we_andV ?_ | refine we_orV ?_ | refine we_notV ?_ | refine we_ty ?_) | ((with_reducible show RO _ _ _ _ _ _); with_reducible first | refine ro_ix_t ?_ | refine ro_eq_s ?_ | refine ro_eq_i ?_ | refine ro_is ?_ | refine ro_isnt ?_ | refine ro_ix_l ?_ | refine ro_add_i ?_ | refine ro_ne_i ?_ | refine ro_sub ?_ | refine ro_lt ?_ | refine ro_le ?_ | refine ro_gt ?_ | refine ro_ge ?_ | refine ro_mod ?_ | refine ro_ne_s ?_ | refine ro_ne_b ?_ | refine ro_ix_tE ?_ | refine ro_ix_lE ?_) | ((with_reducible show WS _ _ _ _ _); with_reducible first | refine ws_seq ?_ | refine ws_set ?_ | refine ws_ret ?_ | refine ws_next ?_ | refine ws_retN ?_ | refine ws_drop ?_ | refine ws_asg ?_) | ((with_reducible show WT _ _ _ _ _); with_reducible first | refine wt_test ?_ | refine wt_not ?_ | refine wt_B ?_ | refine wt_yes ?_) | ((with_reducible show WA _ _ _ _ _); with_reducible first | refine wa_cons ?_ | refine wa_nil ?_) | (with_reducible first | refine wg_name ?_ | refine wgs_cons ?_ | refine wgs_nil ?_ | refine wg_tup ?_ | refine wo_none ?_ | refine wo_some ?_ | refine rc_len_l ?_ | refine rc_len_t ?_ | refine rc_int_b ?_ | refine rs_t ?_ | refine rs_l ?_ | refine ru_neg ?_) | refine ⟨_, rfl, ?_⟩ | refine ⟨rfl, ?_⟩ | refine ⟨Nat.le_of_ble_eq_true rfl, ?_⟩ | refine ⟨by decide, ?_⟩ | refine ⟨_, _, rfl, ?_⟩ | refine ⟨_, _, _, rfl, ?_⟩ | refine ⟨_, at_cons0, ?_⟩ | refine ⟨_, at_ints (by omega), ?_⟩) | (first | refine i_t (by decide +kernel) ?_ | refine i_f (by decide +kernel) ?_ | refine i_t rfl ?_ | refine i_f rfl ?_ | (refine i_t ?_ ?_; focus (simp; done)) | (refine i_f ?_ ?_; focus (simp; done))))))
local macro_rules | `(tactic| walk_at "RN") => `(tactic| (repeat (first | (first | ((with_reducible show WE _ _ _ _ _); with_reducible first | refine we_var ?_ | refine we_str ?_ | refine we_int ?_ | refine we_op ?_ | refine we_call ?_ | refine we_cb ?_ | refine we_tup ?_ | refine we_lst ?_ | refine we_sl ?_ | refine we_non ?_ | refine we_bl ?_ | refine we_un ?_ | refine we_dget ?_ | refine we_andV ?_ | refine we_orV ?_ | refine we_notV ?_ | refine we_ty ?_) | ((with_reducible show RO _ _ _ _ _ _); with_reducible first | refine ro_ix_t ?_ | refine ro_eq_s ?_ | refine ro_eq_i ?_ | refine ro_is ?_ | refine ro_isnt ?_ | refine ro_ix_l ?_ | refine ro_add_i ?_ | refine ro_ne_i ?_ | refine ro_sub ?_ | refine ro_lt ?_ | refine ro_le ?_ | refine ro_gt ?_ | refine ro_ge ?_ | refine ro_mod ?_ | refine ro_ne_s ?_ | refine ro_ne_b ?_ | refine ro_ix_tE ?_ | refine ro_ix_lE ?_) | ((with_reducible show WS _ _ _ _ _); with_reducible first | refine ws_seq ?_ | refine ws_set ?_ | refine ws_if ?_ | refine ws_ret ?_ | refine ws_next ?_ | refine ws_retN ?_ | refine ws_drop ?_ | refine ws_asg ?_) | ((with_reducible show WT _ _ _ _ _); with_reducible first | refine wt_test ?_ | refine wt_or ?_ | refine wt_and ?_ | refine wt_not ?_ | refine wt_B ?_ | refine wt_yes ?_) | ((with_reducible show WA _ _ _ _ _); with_reducible first | refine wa_cons ?_ | refine wa_nil ?_) | (with_reducible first | refine wg_name ?_ | refine wgs_cons ?_ | refine wgs_nil ?_ | refine wg_tup ?_ | refine wo_none ?_ | refine wo_some ?_ | refine rc_len_l ?_ | refine rc_len_t ?_ | refine rc_int_b ?_ | refine rs_t ?_ | refine rs_l ?_ | refine ru_neg ?_) | refine ⟨_, rfl, ?_⟩ | refine ⟨rfl, ?_⟩ | refine ⟨Nat.le_of_ble_eq_true rfl, ?_⟩ | refine ⟨by decide, ?_⟩ | refine ⟨_, _, rfl, ?_⟩ | refine ⟨_, _, _, rfl, ?_⟩ | refine ⟨_, at_cons0, ?_⟩ | refine ⟨_, at_ints (by omega), ?_⟩ | refine ⟨_, _, _, rfl, rfl, now_place _, ?_⟩ | refine ⟨_, _, _, rfl, rfl, now_spots _, ?_⟩ | refine ⟨_, _, _, rfl, rfl, now_cells _, ?_⟩ | refine ⟨_, _, _, rfl, rfl, now_shut _, ?_⟩ | refine ⟨_, _, _, rfl, rfl, now_kept _, ?_⟩ | refine ⟨_, _, _, rfl, rfl, now_beat _, ?_⟩ | refine ⟨_, _, _, rfl, rfl, now_crowd _, ?_⟩ | refine ⟨_, _, _, rfl, rfl, now_pressed _, ?_⟩ | refine ⟨_, _, _, rfl, rfl, now_owed _, ?_⟩ | refine ⟨_, _, _, rfl, rfl, now_laid _, ?_⟩ | refine ⟨_, _, _, rfl, rfl, now_took _, ?_⟩ | refine ⟨_, _, _, rfl, rfl, now_ends _, ?_⟩) | (first | refine i_t (by decide +kernel) ?_ | refine i_f (by decide +kernel) ?_ | refine i_t rfl ?_ | refine i_f rfl ?_ | (refine i_t ?_ ?_; focus (simp; done)) | (refine i_f ?_ ?_; focus (simp; done))))))
local macro_rules | `(tactic| walk_at "QN") => `(tactic| (repeat (first | (first | ((with_reducible show WE _ _ _ _ _); with_reducible first | refine we_var ?_ | refine we_str ?_ | refine we_int ?_ | refine we_op ?_ | refine we_call ?_ | refine we_cb ?_ | refine we_tup ?_ | refine we_lst ?_ | refine we_sl ?_ | refine we_non ?_ | refine we_bl ?_ | refine we_un ?_ | refine we_dget ?_ | refine we_andV ?_ | refine we_orV ?_ | refine we_notV ?_ | refine we_ty ?_) | ((with_reducible show RO _ _ _ _ _ _); with_reducible first | refine ro_ix_t ?_ | refine ro_eq_s ?_ | refine ro_eq_i ?_ | refine ro_is ?_ | refine ro_isnt ?_ | refine ro_ix_l ?_ | refine ro_add_i ?_ | refine ro_ne_i ?_ | refine ro_sub ?_ | refine ro_lt ?_ | refine ro_le ?_ | refine ro_gt ?_ | refine ro_ge ?_ | refine ro_mod ?_ | refine ro_ne_s ?_ | refine ro_ne_b ?_ | refine ro_ix_tE ?_ | refine ro_ix_lE ?_) | ((with_reducible show WS _ _ _ _ _); with_reducible first | refine ws_seq ?_ | refine ws_set ?_ | refine ws_if ?_ | refine ws_ret ?_ | refine ws_next ?_ | refine ws_retN ?_ | refine ws_drop ?_ | refine ws_asg ?_) | ((with_reducible show WT _ _ _ _ _); with_reducible first | refine wt_test ?_ | refine wt_not ?_ | refine wt_B ?_ | refine wt_yes ?_) | ((with_reducible show WA _ _ _ _ _); with_reducible first | refine wa_cons ?_ | refine wa_nil ?_) | (with_reducible first | refine wg_name ?_ | refine wgs_cons ?_ | refine wgs_nil ?_ | refine wg_tup ?_ | refine wo_none ?_ | refine wo_some ?_ | refine rc_len_l ?_ | refine rc_len_t ?_ | refine rc_int_b ?_ | refine rs_t ?_ | refine rs_l ?_ | refine ru_neg ?_) | refine ⟨_, rfl, ?_⟩ | refine ⟨rfl, ?_⟩ | refine ⟨Nat.le_of_ble_eq_true rfl, ?_⟩ | refine ⟨by decide, ?_⟩ | refine ⟨_, _, rfl, ?_⟩ | refine ⟨_, _, _, rfl, ?_⟩ | refine ⟨_, at_cons0, ?_⟩ | refine ⟨_, at_ints (by omega), ?_⟩ | refine ⟨_, _, _, rfl, rfl, now_place _, ?_⟩ | refine ⟨_, _, _, rfl, rfl, now_spots _, ?_⟩ | refine ⟨_, _, _, rfl, rfl, now_cells _, ?_⟩ | refine ⟨_, _, _, rfl, rfl, now_shut _, ?_⟩ | refine ⟨_, _, _, rfl, rfl, now_kept _, ?_⟩ | refine ⟨_, _, _, rfl, rfl, now_beat _, ?_⟩ | refine ⟨_, _, _, rfl, rfl, now_crowd _, ?_⟩ | refine ⟨_, _, _, rfl, rfl, now_pressed _, ?_⟩ | refine ⟨_, _, _, rfl, rfl, now_owed _, ?_⟩ | refine ⟨_, _, _, rfl, rfl, now_laid _, ?_⟩ | refine ⟨_, _, _, rfl, rfl, now_took _, ?_⟩ | refine ⟨_, _, _, rfl, rfl, now_ends _, ?_⟩) | (first | refine i_t (by decide +kernel) ?_ | refine i_f (by decide +kernel) ?_ | refine i_t rfl ?_ | refine i_f rfl ?_ | (refine i_t ?_ ?_; focus (simp; done)) | (refine i_f ?_ ?_; focus (simp; done))))))
local macro_rules | `(tactic| walk_at "XN") => `(tactic| (repeat (first | (first | ((with_reducible show WE _ _ _ _ _); with_reducible first | refine we_var ?_ | refine we_str ?_ | refine we_int ?_ | refine we_op ?_ | refine we_call ?_ | refine we_cb ?_ | refine we_tup ?_ | refine we_lst ?_ | refine we_sl ?_ | refine we_non ?_ | refine we_bl ?_ | refine we_un ?_ | refine we_dget ?_ | refine we_andV ?_ | refine we_orV ?_ | refine we_notV ?_ | refine we_ty ?_) | ((with_reducible show RO _ _ _ _ _ _); with_reducible first | refine ro_ix_t ?_ | refine ro_eq_s ?_ | refine ro_eq_i ?_ | refine ro_is ?_ | refine ro_isnt ?_ | refine ro_ix_l ?_ | refine ro_add_i ?_ | refine ro_ne_i ?_ | refine ro_sub ?_ | refine ro_lt ?_ | refine ro_le ?_ | refine ro_gt ?_ | refine ro_ge ?_ | refine ro_mod ?_ | refine ro_ne_s ?_ | refine ro_ne_b ?_ | refine ro_ix_tE ?_ | refine ro_ix_lE ?_) | ((with_reducible show WS _ _ _ _ _); with_reducible first | refine ws_seq ?_ | refine ws_set ?_ | refine ws_ret ?_ | refine ws_next ?_ | refine ws_retN ?_ | refine ws_drop ?_ | refine ws_asg ?_) | ((with_reducible show WT _ _ _ _ _); with_reducible first | refine wt_test ?_ | refine wt_not ?_ | refine wt_B ?_ | refine wt_yes ?_) | ((with_reducible show WA _ _ _ _ _); with_reducible first | refine wa_cons ?_ | refine wa_nil ?_) | (with_reducible first | refine wg_name ?_ | refine wgs_cons ?_ | refine wgs_nil ?_ | refine wg_tup ?_ | refine wo_none ?_ | refine wo_some ?_ | refine rc_len_l ?_ | refine rc_len_t ?_ | refine rc_int_b ?_ | refine rs_t ?_ | refine rs_l ?_ | refine ru_neg ?_) | refine ⟨_, rfl, ?_⟩ | refine ⟨rfl, ?_⟩ | refine ⟨Nat.le_of_ble_eq_true rfl, ?_⟩ | refine ⟨by decide, ?_⟩ | refine ⟨_, _, rfl, ?_⟩ | refine ⟨_, _, _, rfl, ?_⟩ | refine ⟨_, at_cons0, ?_⟩ | refine ⟨_, at_ints (by omega), ?_⟩ | refine ⟨_, _, _, rfl, rfl, now_place _, ?_⟩ | refine ⟨_, _, _, rfl, rfl, now_spots _, ?_⟩ | refine ⟨_, _, _, rfl, rfl, now_cells _, ?_⟩ | refine ⟨_, _, _, rfl, rfl, now_shut _, ?_⟩ | refine ⟨_, _, _, rfl, rfl, now_kept _, ?_⟩ | refine ⟨_, _, _, rfl, rfl, now_beat _, ?_⟩ | refine ⟨_, _, _, rfl, rfl, now_crowd _, ?_⟩ | refine ⟨_, _, _, rfl, rfl, now_pressed _, ?_⟩ | refine ⟨_, _, _, rfl, rfl, now_owed _, ?_⟩ | refine ⟨_, _, _, rfl, rfl, now_laid _, ?_⟩ | refine ⟨_, _, _, rfl, rfl, now_took _, ?_⟩ | refine ⟨_, _, _, rfl, rfl, now_ends _, ?_⟩) | (first | refine i_t (by decide +kernel) ?_ | refine i_f (by decide +kernel) ?_ | refine i_t rfl ?_ | refine i_f rfl ?_ | (refine i_t ?_ ?_; focus (simp; done)) | (refine i_f ?_ ?_; focus (simp; done))))))
local macro_rules | `(tactic| walk_at "S") => `(tactic| (refine ws_init (by simp only [List.map_cons, List.map_nil, List.cons_append, List.nil_append, List.length_cons, List.length_nil, Nat.reduceAdd, Nat.reduceSub, List.replicate_succ, List.replicate_zero]; rfl) ?_))
local macro_rules | `(tactic| walk_at "W") => `(tactic| (simp only [wipeD, List.map_cons, List.map_nil, List.set_cons_zero, List.set_cons_succ]))
local macro_rules | `(tactic| walk_at "RB") => `(tactic| (repeat (first | (first | ((with_reducible show WE _ _ _ _ _); with_reducible first | refine we_var ?_ | refine we_str ?_ | refine we_int ?_ | refine we_op ?_ | refine we_draw ‹BagJ _ _ _ _ _ _› ?_ | refine we_bag ‹BagJ _ _ _ _ _ _› ?_ | refine we_call ?_ | refine we_cb ?_ | refine we_tup ?_ | refine we_lst ?_ | refine we_sl ?_ | refine we_non ?_ | refine we_bl ?_ | refine we_un ?_ | refine we_dget ?_ | refine we_andV ?_ | refine we_orV ?_ | refine we_notV ?_ | refine we_ty ?_) | ((with_reducible show RO _ _ _ _ _ _); with_reducible first | refine ro_ix_t ?_ | refine ro_eq_s ?_ | refine ro_eq_i ?_ | refine ro_is ?_ | refine ro_isnt ?_ | refine ro_ix_l ?_ | refine ro_add_i ?_ | refine ro_ne_i ?_ | refine ro_sub ?_ | refine ro_lt ?_ | refine ro_le ?_ | refine ro_gt ?_ | refine ro_ge ?_ | refine ro_mod ?_ | refine ro_ne_s ?_ | refine ro_ne_b ?_ | refine ro_ix_tE ?_ | refine ro_ix_lE ?_) | ((with_reducible show WS _ _ _ _ _); with_reducible first | refine ws_seq ?_ | refine ws_set ?_ | refine ws_if ?_ | refine ws_ret ?_ | refine ws_next ?_ | refine ws_retN ?_ | refine ws_drop ?_ | refine ws_asg ?_) | ((with_reducible show WT _ _ _ _ _); with_reducible first | refine wt_test ?_ | refine wt_or ?_ | refine wt_and ?_ | refine wt_not ?_ | refine wt_B ?_ | refine wt_yes ?_) | ((with_reducible show WA _ _ _ _ _); with_reducible first | refine wa_cons ?_ | refine wa_nil ?_) | (with_reducible first | refine wg_name ?_ | refine wgs_cons ?_ | refine wgs_nil ?_ | refine wg_tup ?_ | refine wo_none ?_ | refine wo_some ?_ | refine rc_len_l ?_ | refine rc_len_t ?_ | refine rc_int_b ?_ | refine rs_t ?_ | refine rs_l ?_ | refine ru_neg ?_) | refine ⟨_, _, _, rfl, rfl, ⟨by omega, by omega⟩, by omega, fun _ _ _ => ?_⟩ | refine ⟨_, rfl, ?_⟩ | refine ⟨rfl, ?_⟩ | refine ⟨Nat.le_of_ble_eq_true rfl, ?_⟩ | refine ⟨by decide, ?_⟩ | refine ⟨_, _, rfl, ?_⟩ | refine ⟨_, _, _, rfl, ?_⟩ | refine ⟨_, at_cons0, ?_⟩ | refine ⟨_, at_ints (by omega), ?_⟩ | refine ⟨_, _, _, rfl, rfl, now_place _, ?_⟩ | refine ⟨_, _, _, rfl, rfl, now_spots _, ?_⟩ | refine ⟨_, _, _, rfl, rfl, now_cells _, ?_⟩ | refine ⟨_, _, _, rfl, rfl, now_shut _, ?_⟩ | refine ⟨_, _, _, rfl, rfl, now_kept _, ?_⟩ | refine ⟨_, _, _, rfl, rfl, now_beat _, ?_⟩ | refine ⟨_, _, _, rfl, rfl, now_crowd _, ?_⟩ | refine ⟨_, _, _, rfl, rfl, now_pressed _, ?_⟩ | refine ⟨_, _, _, rfl, rfl, now_owed _, ?_⟩ | refine ⟨_, _, _, rfl, rfl, now_laid _, ?_⟩ | refine ⟨_, _, _, rfl, rfl, now_took _, ?_⟩ | refine ⟨_, _, _, rfl, rfl, now_ends _, ?_⟩) | (first | refine i_t (by decide +kernel) ?_ | refine i_f (by decide +kernel) ?_ | refine i_t rfl ?_ | refine i_f rfl ?_ | (refine i_t ?_ ?_; focus (simp; done)) | (refine i_f ?_ ?_; focus (simp; done))))))
local macro_rules | `(tactic| walk_at "QB") => `(tactic| (repeat (first | (first | ((with_reducible show WE _ _ _ _ _); with_reducible first | refine we_var ?_ | refine we_str ?_ | refine we_int ?_ | refine we_op ?_ | refine we_draw ‹BagJ _ _ _ _ _ _› ?_ | refine we_bag ‹BagJ _ _ _ _ _ _› ?_ | refine we_call ?_ | refine we_cb ?_ | refine we_tup ?_ | refine we_lst ?_ | refine we_sl ?_ | refine we_non ?_ | refine we_bl ?_ | refine we_un ?_ | refine we_dget ?_ | refine we_andV ?_ | refine we_orV ?_ | refine we_notV ?_ | refine we_ty ?_) | ((with_reducible show RO _ _ _ _ _ _); with_reducible first | refine ro_ix_t ?_ | refine ro_eq_s ?_ | refine ro_eq_i ?_ | refine ro_is ?_ | refine ro_isnt ?_ | refine ro_ix_l ?_ | refine ro_add_i ?_ | refine ro_ne_i ?_ | refine ro_sub ?_ | refine ro_lt ?_ | refine ro_le ?_ | refine ro_gt ?_ | refine ro_ge ?_ | refine ro_mod ?_ | refine ro_ne_s ?_ | refine ro_ne_b ?_ | refine ro_ix_tE ?_ | refine ro_ix_lE ?_) | ((with_reducible show WS _ _ _ _ _); with_reducible first | refine ws_seq ?_ | refine ws_set ?_ | refine ws_if ?_ | refine ws_ret ?_ | refine ws_next ?_ | refine ws_retN ?_ | refine ws_drop ?_ | refine ws_asg ?_) | ((with_reducible show WT _ _ _ _ _); with_reducible first | refine wt_test ?_ | refine wt_not ?_ | refine wt_B ?_ | refine wt_yes ?_) | ((with_reducible show WA _ _ _ _ _); with_reducible first | refine wa_cons ?_ | refine wa_nil ?_) | (with_reducible first | refine wg_name ?_ | refine wgs_cons ?_ | refine wgs_nil ?_ | refine wg_tup ?_ | refine wo_none ?_ | refine wo_some ?_ | refine rc_len_l ?_ | refine rc_len_t ?_ | refine rc_int_b ?_ | refine rs_t ?_ | refine rs_l ?_ | refine ru_neg ?_) | refine ⟨_, _, _, rfl, rfl, ⟨by omega, by omega⟩, by omega, fun _ _ _ => ?_⟩ | refine ⟨_, rfl, ?_⟩ | refine ⟨rfl, ?_⟩ | refine ⟨Nat.le_of_ble_eq_true rfl, ?_⟩ | refine ⟨by decide, ?_⟩ | refine ⟨_, _, rfl, ?_⟩ | refine ⟨_, _, _, rfl, ?_⟩ | refine ⟨_, at_cons0, ?_⟩ | refine ⟨_, at_ints (by omega), ?_⟩ | refine ⟨_, _, _, rfl, rfl, now_place _, ?_⟩ | refine ⟨_, _, _, rfl, rfl, now_spots _, ?_⟩ | refine ⟨_, _, _, rfl, rfl, now_cells _, ?_⟩ | refine ⟨_, _, _, rfl, rfl, now_shut _, ?_⟩ | refine ⟨_, _, _, rfl, rfl, now_kept _, ?_⟩ | refine ⟨_, _, _, rfl, rfl, now_beat _, ?_⟩ | refine ⟨_, _, _, rfl, rfl, now_crowd _, ?_⟩ | refine ⟨_, _, _, rfl, rfl, now_pressed _, ?_⟩ | refine ⟨_, _, _, rfl, rfl, now_owed _, ?_⟩ | refine ⟨_, _, _, rfl, rfl, now_laid _, ?_⟩ | refine ⟨_, _, _, rfl, rfl, now_took _, ?_⟩ | refine ⟨_, _, _, rfl, rfl, now_ends _, ?_⟩) | (first | refine i_t (by decide +kernel) ?_ | refine i_f (by decide +kernel) ?_ | refine i_t rfl ?_ | refine i_f rfl ?_ | (refine i_t ?_ ?_; focus (simp; done)) | (refine i_f ?_ ?_; focus (simp; done))))))
local macro_rules | `(tactic| walk_at "XB") => `(tactic| (repeat (first | (first | ((with_reducible show WE _ _ _ _ _); with_reducible first | refine we_var ?_ | refine we_str ?_ | refine we_int ?_ | refine we_op ?_ | refine we_draw ‹BagJ _ _ _ _ _ _› ?_ | refine we_bag ‹BagJ _ _ _ _ _ _› ?_ | refine we_call ?_ | refine we_cb ?_ | refine we_tup ?_ | refine we_lst ?_ | refine we_sl ?_ | refine we_non ?_ | refine we_bl ?_ | refine we_un ?_ | refine we_dget ?_ | refine we_andV ?_ | refine we_orV ?_ | refine we_notV ?_ | refine we_ty ?_) | ((with_reducible show RO _ _ _ _ _ _); with_reducible first | refine ro_ix_t ?_ | refine ro_eq_s ?_ | refine ro_eq_i ?_ | refine ro_is ?_ | refine ro_isnt ?_ | refine ro_ix_l ?_ | refine ro_add_i ?_ | refine ro_ne_i ?_ | refine ro_sub ?_ | refine ro_lt ?_ | refine ro_le ?_ | refine ro_gt ?_ | refine ro_ge ?_ | refine ro_mod ?_ | refine ro_ne_s ?_ | refine ro_ne_b ?_ | refine ro_ix_tE ?_ | refine ro_ix_lE ?_) | ((with_reducible show WS _ _ _ _ _); with_reducible first | refine ws_seq ?_ | refine ws_set ?_ | refine ws_ret ?_ | refine ws_next ?_ | refine ws_retN ?_ | refine ws_drop ?_ | refine ws_asg ?_) | ((with_reducible show WT _ _ _ _ _); with_reducible first | refine wt_test ?_ | refine wt_not ?_ | refine wt_B ?_ | refine wt_yes ?_) | ((with_reducible show WA _ _ _ _ _); with_reducible first | refine wa_cons ?_ | refine wa_nil ?_) | (with_reducible first | refine wg_name ?_ | refine wgs_cons ?_ | refine wgs_nil ?_ | refine wg_tup ?_ | refine wo_none ?_ | refine wo_some ?_ | refine rc_len_l ?_ | refine rc_len_t ?_ | refine rc_int_b ?_ | refine rs_t ?_ | refine rs_l ?_ | refine ru_neg ?_) | refine ⟨_, _, _, rfl, rfl, ⟨by omega, by omega⟩, by omega, fun _ _ _ => ?_⟩ | refine ⟨_, rfl, ?_⟩ | refine ⟨rfl, ?_⟩ | refine ⟨Nat.le_of_ble_eq_true rfl, ?_⟩ | refine ⟨by decide, ?_⟩ | refine ⟨_, _, rfl, ?_⟩ | refine ⟨_, _, _, rfl, ?_⟩ | refine ⟨_, at_cons0, ?_⟩ | refine ⟨_, at_ints (by omega), ?_⟩ | refine ⟨_, _, _, rfl, rfl, now_place _, ?_⟩ | refine ⟨_, _, _, rfl, rfl, now_spots _, ?_⟩ | refine ⟨_, _, _, rfl, rfl, now_cells _, ?_⟩ | refine ⟨_, _, _, rfl, rfl, now_shut _, ?_⟩ | refine ⟨_, _, _, rfl, rfl, now_kept _, ?_⟩ | refine ⟨_, _, _, rfl, rfl, now_beat _, ?_⟩ | refine ⟨_, _, _, rfl, rfl, now_crowd _, ?_⟩ | refine ⟨_, _, _, rfl, rfl, now_pressed _, ?_⟩ | refine ⟨_, _, _, rfl, rfl, now_owed _, ?_⟩ | refine ⟨_, _, _, rfl, rfl, now_laid _, ?_⟩ | refine ⟨_, _, _, rfl, rfl, now_took _, ?_⟩ | refine ⟨_, _, _, rfl, rfl, now_ends _, ?_⟩) | (first | refine i_t (by decide +kernel) ?_ | refine i_f (by decide +kernel) ?_ | refine i_t rfl ?_ | refine i_f rfl ?_ | (refine i_t ?_ ?_; focus (simp; done)) | (refine i_f ?_ ?_; focus (simp; done))))))
local macro_rules | `(tactic| walk_at "RL") => `(tactic| (repeat (first | (first | ((with_reducible show WE _ _ _ _ _); with_reducible first | refine we_var ?_ | refine we_str ?_ | refine we_int ?_ | refine we_op ?_ | refine we_drawL ‹BagJ _ _ _ _ _ _› ‹_ ∉ _› ?_ | refine we_bagL ‹BagJ _ _ _ _ _ _› ‹_ ∉ _› ?_ | refine we_call ?_ | refine we_cb ?_ | refine we_tup ?_ | refine we_lst ?_ | refine we_sl ?_ | refine we_non ?_ | refine we_bl ?_ | refine we_un ?_ | refine we_dget ?_ | refine we_andV ?_ | refine we_orV ?_ | refine we_notV ?_ | refine we_ty ?_) | ((with_reducible show RO _ _ _ _ _ _); with_reducible first | refine ro_ix_t ?_ | refine ro_eq_s ?_ | refine ro_eq_i ?_ | refine ro_is ?_ | refine ro_isnt ?_ | refine ro_ix_l ?_ | refine ro_add_i ?_ | refine ro_ne_i ?_ | refine ro_sub ?_ | refine ro_lt ?_ | refine ro_le ?_ | refine ro_gt ?_ | refine ro_ge ?_ | refine ro_mod ?_ | refine ro_ne_s ?_ | refine ro_ne_b ?_ | refine ro_ix_tE ?_ | refine ro_ix_lE ?_) | ((with_reducible show WS _ _ _ _ _); with_reducible first | refine ws_seq ?_ | refine ws_set ?_ | refine ws_if ?_ | refine ws_ret ?_ | refine ws_next ?_ | refine ws_retN ?_ | refine ws_drop ?_ | refine ws_asg ?_) | ((with_reducible show WT _ _ _ _ _); with_reducible first | refine wt_test ?_ | refine wt_or ?_ | refine wt_and ?_ | refine wt_not ?_ | refine wt_B ?_ | refine wt_yes ?_) | ((with_reducible show WA _ _ _ _ _); with_reducible first | refine wa_cons ?_ | refine wa_nil ?_) | (with_reducible first | refine wg_name ?_ | refine wgs_cons ?_ | refine wgs_nil ?_ | refine wg_tup ?_ | refine wo_none ?_ | refine wo_some ?_ | refine rc_len_l ?_ | refine rc_len_t ?_ | refine rc_int_b ?_ | refine rs_t ?_ | refine rs_l ?_ | refine ru_neg ?_) | refine ⟨_, _, _, _, rfl, rfl, ⟨by omega, by omega⟩, by omega, fun _ _ _ => ?_⟩ | refine ⟨_, rfl, ?_⟩ | refine ⟨rfl, ?_⟩ | refine ⟨Nat.le_of_ble_eq_true rfl, ?_⟩ | refine ⟨by decide, ?_⟩ | refine ⟨_, _, rfl, ?_⟩ | refine ⟨_, _, _, rfl, ?_⟩ | refine ⟨_, at_cons0, ?_⟩ | refine ⟨_, at_ints (by omega), ?_⟩ | refine ⟨_, _, _, rfl, rfl, now_place _, ?_⟩ | refine ⟨_, _, _, rfl, rfl, now_spots _, ?_⟩ | refine ⟨_, _, _, rfl, rfl, now_cells _, ?_⟩ | refine ⟨_, _, _, rfl, rfl, now_shut _, ?_⟩ | refine ⟨_, _, _, rfl, rfl, now_kept _, ?_⟩ | refine ⟨_, _, _, rfl, rfl, now_beat _, ?_⟩ | refine ⟨_, _, _, rfl, rfl, now_crowd _, ?_⟩ | refine ⟨_, _, _, rfl, rfl, now_pressed _, ?_⟩ | refine ⟨_, _, _, rfl, rfl, now_owed _, ?_⟩ | refine ⟨_, _, _, rfl, rfl, now_laid _, ?_⟩ | refine ⟨_, _, _, rfl, rfl, now_took _, ?_⟩ | refine ⟨_, _, _, rfl, rfl, now_ends _, ?_⟩) | (first | refine i_t (by decide +kernel) ?_ | refine i_f (by decide +kernel) ?_ | refine i_t rfl ?_ | refine i_f rfl ?_ | (refine i_t ?_ ?_; focus (simp; done)) | (refine i_f ?_ ?_; focus (simp; done))))))
local macro_rules | `(tactic| walk_at "QL") => `(tactic| (repeat (first | (first | ((with_reducible show WE _ _ _ _ _); with_reducible first | refine we_var ?_ | refine we_str ?_ | refine we_int ?_ | refine we_op ?_ | refine we_drawL ‹BagJ _ _ _ _ _ _› ‹_ ∉ _› ?_ | refine we_bagL ‹BagJ _ _ _ _ _ _› ‹_ ∉ _› ?_ | refine we_call ?_ | refine we_cb ?_ | refine we_tup ?_ | refine we_lst ?_ | refine we_sl ?_ | refine we_non ?_ | refine we_bl ?_ | refine we_un ?_ | refine we_dget ?_ | refine we_andV ?_ | refine we_orV ?_ | refine we_notV ?_ | refine we_ty ?_) | ((with_reducible show RO _ _ _ _ _ _); with_reducible first | refine ro_ix_t ?_ | refine ro_eq_s ?_ | refine ro_eq_i ?_ | refine ro_is ?_ | refine ro_isnt ?_ | refine ro_ix_l ?_ | refine ro_add_i ?_ | refine ro_ne_i ?_ | refine ro_sub ?_ | refine ro_lt ?_ | refine ro_le ?_ | refine ro_gt ?_ | refine ro_ge ?_ | refine ro_mod ?_ | refine ro_ne_s ?_ | refine ro_ne_b ?_ | refine ro_ix_tE ?_ | refine ro_ix_lE ?_) | ((with_reducible show WS _ _ _ _ _); with_reducible first | refine ws_seq ?_ | refine ws_set ?_ | refine ws_if ?_ | refine ws_ret ?_ | refine ws_next ?_ | refine ws_retN ?_ | refine ws_drop ?_ | refine ws_asg ?_) | ((with_reducible show WT _ _ _ _ _); with_reducible first | refine wt_test ?_ | refine wt_not ?_ | refine wt_B ?_ | refine wt_yes ?_) | ((with_reducible show WA _ _ _ _ _); with_reducible first | refine wa_cons ?_ | refine wa_nil ?_) | (with_reducible first | refine wg_name ?_ | refine wgs_cons ?_ | refine wgs_nil ?_ | refine wg_tup ?_ | refine wo_none ?_ | refine wo_some ?_ | refine rc_len_l ?_ | refine rc_len_t ?_ | refine rc_int_b ?_ | refine rs_t ?_ | refine rs_l ?_ | refine ru_neg ?_) | refine ⟨_, _, _, _, rfl, rfl, ⟨by omega, by omega⟩, by omega, fun _ _ _ => ?_⟩ | refine ⟨_, rfl, ?_⟩ | refine ⟨rfl, ?_⟩ | refine ⟨Nat.le_of_ble_eq_true rfl, ?_⟩ | refine ⟨by decide, ?_⟩ | refine ⟨_, _, rfl, ?_⟩ | refine ⟨_, _, _, rfl, ?_⟩ | refine ⟨_, at_cons0, ?_⟩ | refine ⟨_, at_ints (by omega), ?_⟩ | refine ⟨_, _, _, rfl, rfl, now_place _, ?_⟩ | refine ⟨_, _, _, rfl, rfl, now_spots _, ?_⟩ | refine ⟨_, _, _, rfl, rfl, now_cells _, ?_⟩ | refine ⟨_, _, _, rfl, rfl, now_shut _, ?_⟩ | refine ⟨_, _, _, rfl, rfl, now_kept _, ?_⟩ | refine ⟨_, _, _, rfl, rfl, now_beat _, ?_⟩ | refine ⟨_, _, _, rfl, rfl, now_crowd _, ?_⟩ | refine ⟨_, _, _, rfl, rfl, now_pressed _, ?_⟩ | refine ⟨_, _, _, rfl, rfl, now_owed _, ?_⟩ | refine ⟨_, _, _, rfl, rfl, now_laid _, ?_⟩ | refine ⟨_, _, _, rfl, rfl, now_took _, ?_⟩ | refine ⟨_, _, _, rfl, rfl, now_ends _, ?_⟩) | (first | refine i_t (by decide +kernel) ?_ | refine i_f (by decide +kernel) ?_ | refine i_t rfl ?_ | refine i_f rfl ?_ | (refine i_t ?_ ?_; focus (simp; done)) | (refine i_f ?_ ?_; focus (simp; done))))))
local macro_rules | `(tactic| walk_at "XL") => `(tactic| (repeat (first | (first | ((with_reducible show WE _ _ _ _ _); with_reducible first | refine we_var ?_ | refine we_str ?_ | refine we_int ?_ | refine we_op ?_ | refine we_drawL ‹BagJ _ _ _ _ _ _› ‹_ ∉ _› ?_ | refine we_bagL ‹BagJ _ _ _ _ _ _› ‹_ ∉ _› ?_ | refine we_call ?_ | refine we_cb ?_ | refine we_tup ?_ | refine we_lst ?_ | refine we_sl ?_ | refine we_non ?_ | refine we_bl ?_ | refine we_un ?_ | refine we_dget ?_ | refine we_andV ?_ | refine we_orV ?_ | refine we_notV ?_ | refine we_ty ?_) | ((with_reducible show RO _ _ _ _ _ _); with_reducible first | refine ro_ix_t ?_ | refine ro_eq_s ?_ | refine ro_eq_i ?_ | refine ro_is ?_ | refine ro_isnt ?_ | refine ro_ix_l ?_ | refine ro_add_i ?_ | refine ro_ne_i ?_ | refine ro_sub ?_ | refine ro_lt ?_ | refine ro_le ?_ | refine ro_gt ?_ | refine ro_ge ?_ | refine ro_mod ?_ | refine ro_ne_s ?_ | refine ro_ne_b ?_ | refine ro_ix_tE ?_ | refine ro_ix_lE ?_) | ((with_reducible show WS _ _ _ _ _); with_reducible first | refine ws_seq ?_ | refine ws_set ?_ | refine ws_ret ?_ | refine ws_next ?_ | refine ws_retN ?_ | refine ws_drop ?_ | refine ws_asg ?_) | ((with_reducible show WT _ _ _ _ _); with_reducible first | refine wt_test ?_ | refine wt_not ?_ | refine wt_B ?_ | refine wt_yes ?_) | ((with_reducible show WA _ _ _ _ _); with_reducible first | refine wa_cons ?_ | refine wa_nil ?_) | (with_reducible first | refine wg_name ?_ | refine wgs_cons ?_ | refine wgs_nil ?_ | refine wg_tup ?_ | refine wo_none ?_ | refine wo_some ?_ | refine rc_len_l ?_ | refine rc_len_t ?_ | refine rc_int_b ?_ | refine rs_t ?_ | refine rs_l ?_ | refine ru_neg ?_) | refine ⟨_, _, _, _, rfl, rfl, ⟨by omega, by omega⟩, by omega, fun _ _ _ => ?_⟩ | refine ⟨_, rfl, ?_⟩ | refine ⟨rfl, ?_⟩ | refine ⟨Nat.le_of_ble_eq_true rfl, ?_⟩ | refine ⟨by decide, ?_⟩ | refine ⟨_, _, rfl, ?_⟩ | refine ⟨_, _, _, rfl, ?_⟩ | refine ⟨_, at_cons0, ?_⟩ | refine ⟨_, at_ints (by omega), ?_⟩ | refine ⟨_, _, _, rfl, rfl, now_place _, ?_⟩ | refine ⟨_, _, _, rfl, rfl, now_spots _, ?_⟩ | refine ⟨_, _, _, rfl, rfl, now_cells _, ?_⟩ | refine ⟨_, _, _, rfl, rfl, now_shut _, ?_⟩ | refine ⟨_, _, _, rfl, rfl, now_kept _, ?_⟩ | refine ⟨_, _, _, rfl, rfl, now_beat _, ?_⟩ | refine ⟨_, _, _, rfl, rfl, now_crowd _, ?_⟩ | refine ⟨_, _, _, rfl, rfl, now_pressed _, ?_⟩ | refine ⟨_, _, _, rfl, rfl, now_owed _, ?_⟩ | refine ⟨_, _, _, rfl, rfl, now_laid _, ?_⟩ | refine ⟨_, _, _, rfl, rfl, now_took _, ?_⟩ | refine ⟨_, _, _, rfl, rfl, now_ends _, ?_⟩) | (first | refine i_t (by decide +kernel) ?_ | refine i_f (by decide +kernel) ?_ | refine i_t rfl ?_ | refine i_f rfl ?_ | (refine i_t ?_ ?_; focus (simp; done)) | (refine i_f ?_ ?_; focus (simp; done))))))
local macro_rules | `(tactic| walk_at "SN") => `(tactic| (refine wn_init (by simp only [List.map_cons, List.map_nil, List.cons_append, List.nil_append, List.length_cons, List.length_nil, Nat.reduceAdd, Nat.reduceSub, List.replicate_succ, List.replicate_zero]; rfl) ?_))
local macro_rules | `(tactic| walk_at "RW") => `(tactic| (repeat (first | (first | ((with_reducible show WN _ _ _ _ _ _ _); with_reducible first | refine wn_seq ?_ | refine wn_next ?_ | refine wn_if ‹JFree _› ?_ | refine wn_call2 ‹JFree _› ?_ | refine wn_set ‹JFree _› ?_ | refine wn_ret ‹JFree _› ?_ | refine wn_new_owed ‹JFree _› ?_ | refine wn_new_laid ‹JFree _› ?_ | refine wn_put ‹JFree _› ?_) | ((with_reducible show WE _ _ _ _ _); with_reducible first | refine we_var ?_ | refine we_str ?_ | refine we_int ?_ | refine we_op ?_ | refine we_call ?_ | refine we_cb ?_ | refine we_tup ?_ | refine we_lst ?_ | refine we_sl ?_ | refine we_non ?_ | refine we_bl ?_ | refine we_un ?_ | refine we_dget ?_ | refine we_andV ?_ | refine we_orV ?_ | refine we_notV ?_ | refine we_ty ?_) | ((with_reducible show RO _ _ _ _ _ _); with_reducible first | refine ro_ix_t ?_ | refine ro_eq_s ?_ | refine ro_eq_i ?_ | refine ro_is ?_ | refine ro_isnt ?_ | refine ro_ix_l ?_ | refine ro_add_i ?_ | refine ro_ne_i ?_ | refine ro_sub ?_ | refine ro_lt ?_ | refine ro_le ?_ | refine ro_gt ?_ | refine ro_ge ?_ | refine ro_mod ?_ | refine ro_ne_s ?_ | refine ro_ne_b ?_ | refine ro_ix_tE ?_ | refine ro_ix_lE ?_) | ((with_reducible show WS _ _ _ _ _); with_reducible first | refine ws_seq ?_ | refine ws_set ?_ | refine ws_if ?_ | refine ws_ret ?_ | refine ws_next ?_ | refine ws_retN ?_ | refine ws_drop ?_ | refine ws_asg ?_) | ((with_reducible show WT _ _ _ _ _); with_reducible first | refine wt_test ?_ | refine wt_or ?_ | refine wt_and ?_ | refine wt_not ?_ | refine wt_B ?_ | refine wt_yes ?_) | ((with_reducible show WA _ _ _ _ _); with_reducible first | refine wa_cons ?_ | refine wa_nil ?_) | (with_reducible first | refine wg_name ?_ | refine wgs_cons ?_ | refine wgs_nil ?_ | refine wg_tup ?_ | refine wo_none ?_ | refine wo_some ?_ | refine rc_len_l ?_ | refine rc_len_t ?_ | refine rc_int_b ?_ | refine rs_t ?_ | refine rs_l ?_ | refine ru_neg ?_) | refine ⟨_, rfl, ?_⟩ | refine ⟨rfl, ?_⟩ | refine ⟨Nat.le_of_ble_eq_true rfl, ?_⟩ | refine ⟨by decide, ?_⟩ | refine ⟨_, _, rfl, ?_⟩ | refine ⟨_, _, _, rfl, ?_⟩ | refine ⟨_, at_cons0, ?_⟩ | refine ⟨_, at_ints (by omega), ?_⟩ | refine ⟨_, _, sc_int, put_place, ?_⟩ | refine ⟨_, _, sc_bl, put_shut, ?_⟩ | refine ⟨_, _, sc_int, put_beat, ?_⟩ | refine ⟨_, _, sc_int, put_crowd, ?_⟩ | refine ⟨_, _, sc_int, put_pressed, ?_⟩ | refine ⟨_, _, sc_int, put_ends, ?_⟩ | refine ⟨⟨0, rfl⟩, ?_⟩ | refine ⟨_, _, _, rfl, rfl, now_place _, ?_⟩ | refine ⟨_, _, _, rfl, rfl, now_spots _, ?_⟩ | refine ⟨_, _, _, rfl, rfl, now_cells _, ?_⟩ | refine ⟨_, _, _, rfl, rfl, now_shut _, ?_⟩ | refine ⟨_, _, _, rfl, rfl, now_kept _, ?_⟩ | refine ⟨_, _, _, rfl, rfl, now_beat _, ?_⟩ | refine ⟨_, _, _, rfl, rfl, now_crowd _, ?_⟩ | refine ⟨_, _, _, rfl, rfl, now_pressed _, ?_⟩ | refine ⟨_, _, _, rfl, rfl, now_owed _, ?_⟩ | refine ⟨_, _, _, rfl, rfl, now_laid _, ?_⟩ | refine ⟨_, _, _, rfl, rfl, now_took _, ?_⟩ | refine ⟨_, _, _, rfl, rfl, now_ends _, ?_⟩) | (first | refine i_t (by decide +kernel) ?_ | refine i_f (by decide +kernel) ?_ | refine i_t rfl ?_ | refine i_f rfl ?_ | (refine i_t ?_ ?_; focus (simp; done)) | (refine i_f ?_ ?_; focus (simp; done))))))
local macro_rules | `(tactic| walk_at "RT") => `(tactic| (repeat (first | (first | ((with_reducible show WN _ _ _ _ _ _ _); with_reducible first | refine wn_seq ?_ | refine wn_next ?_ | refine wn_if ‹JFree _› ?_ | refine wn_call2 ‹JFree _› ?_ | refine wn_set ‹JFree _› ?_ | refine wn_ret ‹JFree _› ?_ | refine wn_new_owed ‹JFree _› ?_ | refine wn_new_laid ‹JFree _› ?_ | refine wn_put ‹JFree _› ?_) | ((with_reducible show WE _ _ _ _ _); with_reducible first | refine we_var ?_ | refine we_str ?_ | refine we_int ?_ | refine we_op ?_ | refine we_drawT ‹BagJ _ _ _ _ _ _› ‹_ ∉ _› ?_ | refine we_bagT ‹BagJ _ _ _ _ _ _› ‹_ ∉ _› ?_ | refine we_call ?_ | refine we_cb ?_ | refine we_tup ?_ | refine we_lst ?_ | refine we_sl ?_ | refine we_non ?_ | refine we_bl ?_ | refine we_un ?_ | refine we_dget ?_ | refine we_andV ?_ | refine we_orV ?_ | refine we_notV ?_ | refine we_ty ?_) | ((with_reducible show RO _ _ _ _ _ _); with_reducible first | refine ro_ix_t ?_ | refine ro_eq_s ?_ | refine ro_eq_i ?_ | refine ro_is ?_ | refine ro_isnt ?_ | refine ro_ix_l ?_ | refine ro_add_i ?_ | refine ro_ne_i ?_ | refine ro_sub ?_ | refine ro_lt ?_ | refine ro_le ?_ | refine ro_gt ?_ | refine ro_ge ?_ | refine ro_mod ?_ | refine ro_ne_s ?_ | refine ro_ne_b ?_ | refine ro_ix_tE ?_ | refine ro_ix_lE ?_) | ((with_reducible show WS _ _ _ _ _); with_reducible first | refine ws_seq ?_ | refine ws_set ?_ | refine ws_if ?_ | refine ws_ret ?_ | refine ws_next ?_ | refine ws_retN ?_ | refine ws_drop ?_ | refine ws_asg ?_) | ((with_reducible show WT _ _ _ _ _); with_reducible first | refine wt_test ?_ | refine wt_or ?_ | refine wt_and ?_ | refine wt_not ?_ | refine wt_B ?_ | refine wt_yes ?_) | ((with_reducible show WA _ _ _ _ _); with_reducible first | refine wa_cons ?_ | refine wa_nil ?_) | (with_reducible first | refine wg_name ?_ | refine wgs_cons ?_ | refine wgs_nil ?_ | refine wg_tup ?_ | refine wo_none ?_ | refine wo_some ?_ | refine rc_len_l ?_ | refine rc_len_t ?_ | refine rc_int_b ?_ | refine rs_t ?_ | refine rs_l ?_ | refine ru_neg ?_) | refine ⟨_, _, _, _, rfl, rfl, ⟨by omega, by omega⟩, by omega, fun _ _ _ => ?_⟩ | refine ⟨_, rfl, ?_⟩ | refine ⟨rfl, ?_⟩ | refine ⟨Nat.le_of_ble_eq_true rfl, ?_⟩ | refine ⟨by decide, ?_⟩ | refine ⟨_, _, rfl, ?_⟩ | refine ⟨_, _, _, rfl, ?_⟩ | refine ⟨_, at_cons0, ?_⟩ | refine ⟨_, at_ints (by omega), ?_⟩ | refine ⟨_, _, sc_int, put_place, ?_⟩ | refine ⟨_, _, sc_bl, put_shut, ?_⟩ | refine ⟨_, _, sc_int, put_beat, ?_⟩ | refine ⟨_, _, sc_int, put_crowd, ?_⟩ | refine ⟨_, _, sc_int, put_pressed, ?_⟩ | refine ⟨_, _, sc_int, put_ends, ?_⟩ | refine ⟨⟨0, rfl⟩, ?_⟩ | refine ⟨_, _, _, rfl, rfl, now_place _, ?_⟩ | refine ⟨_, _, _, rfl, rfl, now_spots _, ?_⟩ | refine ⟨_, _, _, rfl, rfl, now_cells _, ?_⟩ | refine ⟨_, _, _, rfl, rfl, now_shut _, ?_⟩ | refine ⟨_, _, _, rfl, rfl, now_kept _, ?_⟩ | refine ⟨_, _, _, rfl, rfl, now_beat _, ?_⟩ | refine ⟨_, _, _, rfl, rfl, now_crowd _, ?_⟩ | refine ⟨_, _, _, rfl, rfl, now_pressed _, ?_⟩ | refine ⟨_, _, _, rfl, rfl, now_owed _, ?_⟩ | refine ⟨_, _, _, rfl, rfl, now_laid _, ?_⟩ | refine ⟨_, _, _, rfl, rfl, now_took _, ?_⟩ | refine ⟨_, _, _, rfl, rfl, now_ends _, ?_⟩) | (first | refine i_t (by decide +kernel) ?_ | refine i_f (by decide +kernel) ?_ | refine i_t rfl ?_ | refine i_f rfl ?_ | (refine i_t ?_ ?_; focus (simp; done)) | (refine i_f ?_ ?_; focus (simp; done))))))
local macro_rules | `(tactic| walk_at "RBW") => `(tactic| (repeat (first | (first | ((with_reducible show WN _ _ _ _ _ _ _); with_reducible first | refine wn_seq ?_ | refine wn_next ?_ | refine wn_if ‹JFree _› ?_ | refine wn_call2 ‹JFree _› ?_ | refine wn_set ‹JFree _› ?_ | refine wn_ret ‹JFree _› ?_ | refine wn_new_owed ‹JFree _› ?_ | refine wn_new_laid ‹JFree _› ?_ | refine wn_put ‹JFree _› ?_) | ((with_reducible show WE _ _ _ _ _); with_reducible first | refine we_var ?_ | refine we_str ?_ | refine we_int ?_ | refine we_op ?_ | refine we_draw ‹BagJ _ _ _ _ _ _› ?_ | refine we_bag ‹BagJ _ _ _ _ _ _› ?_ | refine we_call ?_ | refine we_cb ?_ | refine we_tup ?_ | refine we_lst ?_ | refine we_sl ?_ | refine we_non ?_ | refine we_bl ?_ | refine we_un ?_ | refine we_dget ?_ | refine we_andV ?_ | refine we_orV ?_ | refine we_notV ?_ | refine we_ty ?_) | ((with_reducible show RO _ _ _ _ _ _); with_reducible first | refine ro_ix_t ?_ | refine ro_eq_s ?_ | refine ro_eq_i ?_ | refine ro_is ?_ | refine ro_isnt ?_ | refine ro_ix_l ?_ | refine ro_add_i ?_ | refine ro_ne_i ?_ | refine ro_sub ?_ | refine ro_lt ?_ | refine ro_le ?_ | refine ro_gt ?_ | refine ro_ge ?_ | refine ro_mod ?_ | refine ro_ne_s ?_ | refine ro_ne_b ?_ | refine ro_ix_tE ?_ | refine ro_ix_lE ?_) | ((with_reducible show WS _ _ _ _ _); with_reducible first | refine ws_seq ?_ | refine ws_set ?_ | refine ws_if ?_ | refine ws_ret ?_ | refine ws_next ?_ | refine ws_retN ?_ | refine ws_drop ?_ | refine ws_asg ?_) | ((with_reducible show WT _ _ _ _ _); with_reducible first | refine wt_test ?_ | refine wt_or ?_ | refine wt_and ?_ | refine wt_not ?_ | refine wt_B ?_ | refine wt_yes ?_) | ((with_reducible show WA _ _ _ _ _); with_reducible first | refine wa_cons ?_ | refine wa_nil ?_) | (with_reducible first | refine wg_name ?_ | refine wgs_cons ?_ | refine wgs_nil ?_ | refine wg_tup ?_ | refine wo_none ?_ | refine wo_some ?_ | refine rc_len_l ?_ | refine rc_len_t ?_ | refine rc_int_b ?_ | refine rs_t ?_ | refine rs_l ?_ | refine ru_neg ?_) | refine ⟨_, _, _, rfl, rfl, ⟨by omega, by omega⟩, by omega, fun _ _ _ => ?_⟩ | refine ⟨_, rfl, ?_⟩ | refine ⟨rfl, ?_⟩ | refine ⟨Nat.le_of_ble_eq_true rfl, ?_⟩ | refine ⟨by decide, ?_⟩ | refine ⟨_, _, rfl, ?_⟩ | refine ⟨_, _, _, rfl, ?_⟩ | refine ⟨_, at_cons0, ?_⟩ | refine ⟨_, at_ints (by omega), ?_⟩ | refine ⟨_, _, sc_int, put_place, ?_⟩ | refine ⟨_, _, sc_bl, put_shut, ?_⟩ | refine ⟨_, _, sc_int, put_beat, ?_⟩ | refine ⟨_, _, sc_int, put_crowd, ?_⟩ | refine ⟨_, _, sc_int, put_pressed, ?_⟩ | refine ⟨_, _, sc_int, put_ends, ?_⟩ | refine ⟨⟨0, rfl⟩, ?_⟩ | refine ⟨_, _, _, rfl, rfl, now_place _, ?_⟩ | refine ⟨_, _, _, rfl, rfl, now_spots _, ?_⟩ | refine ⟨_, _, _, rfl, rfl, now_cells _, ?_⟩ | refine ⟨_, _, _, rfl, rfl, now_shut _, ?_⟩ | refine ⟨_, _, _, rfl, rfl, now_kept _, ?_⟩ | refine ⟨_, _, _, rfl, rfl, now_beat _, ?_⟩ | refine ⟨_, _, _, rfl, rfl, now_crowd _, ?_⟩ | refine ⟨_, _, _, rfl, rfl, now_pressed _, ?_⟩ | refine ⟨_, _, _, rfl, rfl, now_owed _, ?_⟩ | refine ⟨_, _, _, rfl, rfl, now_laid _, ?_⟩ | refine ⟨_, _, _, rfl, rfl, now_took _, ?_⟩ | refine ⟨_, _, _, rfl, rfl, now_ends _, ?_⟩) | (first | refine i_t (by decide +kernel) ?_ | refine i_f (by decide +kernel) ?_ | refine i_t rfl ?_ | refine i_f rfl ?_ | (refine i_t ?_ ?_; focus (simp; done)) | (refine i_f ?_ ?_; focus (simp; done))))))
local macro_rules | `(tactic| walk_at "RH") => `(tactic| (repeat (first | (first | ((with_reducible show WE _ _ _ _ _); with_reducible first | refine we_var ?_ | refine we_str ?_ | refine we_int ?_ | refine we_op ?_ | refine we_h_mill ‹HTx _ _› ?_ | refine we_h_rings ‹HTx _ _› ?_ | refine we_h_terms ‹HTx _ _› ?_ | refine we_h_stand ‹HTx _ _› ?_ | refine we_h_many ‹HTx _ _› ?_ | refine we_h_cause ‹HTx _ _› ?_ | refine we_call ?_ | refine we_cb ?_ | refine we_tup ?_ | refine we_lst ?_ | refine we_sl ?_ | refine we_non ?_ | refine we_bl ?_ | refine we_un ?_ | refine we_dget ?_ | refine we_andV ?_ | refine we_orV ?_ | refine we_notV ?_ | refine we_ty ?_) | ((with_reducible show RO _ _ _ _ _ _); with_reducible first | refine ro_ix_t ?_ | refine ro_eq_s ?_ | refine ro_eq_i ?_ | refine ro_is ?_ | refine ro_isnt ?_ | refine ro_ix_l ?_ | refine ro_add_i ?_ | refine ro_ne_i ?_ | refine ro_sub ?_ | refine ro_lt ?_ | refine ro_le ?_ | refine ro_gt ?_ | refine ro_ge ?_ | refine ro_mod ?_ | refine ro_ne_s ?_ | refine ro_ne_b ?_ | refine ro_ix_tE ?_ | refine ro_ix_lE ?_) | ((with_reducible show WS _ _ _ _ _); with_reducible first | refine ws_h_stand ‹HTx _ _› ‹_ ∉ _› ?_ | refine ws_h_many ‹HTx _ _› ‹_ ∉ _› ?_ | refine ws_h_cause ‹HTx _ _› ‹_ ∉ _› ?_ | refine ws_seq ?_ | refine ws_set ?_ | refine ws_if ?_ | refine ws_ret ?_ | refine ws_next ?_ | refine ws_retN ?_ | refine ws_drop ?_ | refine ws_asg ?_) | ((with_reducible show WT _ _ _ _ _); with_reducible first | refine wt_test ?_ | refine wt_or ?_ | refine wt_and ?_ | refine wt_not ?_ | refine wt_B ?_ | refine wt_yes ?_) | ((with_reducible show WA _ _ _ _ _); with_reducible first | refine wa_cons ?_ | refine wa_nil ?_) | (with_reducible first | refine wg_name ?_ | refine wgs_cons ?_ | refine wgs_nil ?_ | refine wg_tup ?_ | refine wo_none ?_ | refine wo_some ?_ | refine rc_len_l ?_ | refine rc_len_t ?_ | refine rc_int_b ?_ | refine rs_t ?_ | refine rs_l ?_ | refine ru_neg ?_) | refine ⟨_, rfl, ?_⟩ | refine ⟨rfl, ?_⟩ | refine ⟨Nat.le_of_ble_eq_true rfl, ?_⟩ | refine ⟨by decide, ?_⟩ | refine ⟨_, _, rfl, ?_⟩ | refine ⟨_, _, _, rfl, ?_⟩ | refine ⟨_, at_cons0, ?_⟩ | refine ⟨_, at_ints (by omega), ?_⟩) | (first | refine i_t (by decide +kernel) ?_ | refine i_f (by decide +kernel) ?_ | refine i_t rfl ?_ | refine i_f rfl ?_ | (refine i_t ?_ ?_; focus (simp; done)) | (refine i_f ?_ ?_; focus (simp; done))))))
variable {P : Program} {w : World} {K : PySem.W.Frag} {mg : Str → Option Value} {base : Heap}
abbrev s__law_bag : Stmt := top 38
theorem sc__law_bag : FnScope ["script", "great", "fold", "cell"] ["script"] (defScope s__law_bag) := ⟨rfl, rfl, rfl, by decide +kernel, rfl, by decide +kernel, by decide +kernel⟩
theorem df__law_bag (B : Bl mg) (F : FuD K mg "_law_bag" ["script"] s__law_bag) : Df P w K mg base "_law_bag" 1 ["script"] (spBag K) := by
  refine F.okR (n := 0) sc__law_bag (fun vs H Q E h => ?_) fun f cdv A outer s H E hr => ⟨_, (have hu := hu_of hr; (pss_cons (ps_set (i := 1) sc__law_bag.nd rfl (Or.inl rfl) (pe_lst pa_nil))
     (pss_cons (ps_set (i := 2) sc__law_bag.nd rfl (Or.inl rfl) pe_int)
     (pss_cons (ps_for PassesOwn.never rfl (k_list (K := K) rfl (pv 0)) (pg_name (i := 3) sc__law_bag.nd rfl (Or.inl rfl))
     (pss_cons (ps_if (pt_cmpR o_lt (pv 3) pe_int (nomark _))
     (pss_one (ps_set (i := 3) sc__law_bag.nd rfl (Or.inl rfl) (pe_op o_sub pe_int (pv 3))))
     pss_nil)
     (pss_cons (ps_set (i := 2) sc__law_bag.nd rfl (Or.inl rfl) (pe_op o_mod (pe_op (k_add (K := K) rfl) (pe_op (k_add (K := K) rfl) (pe_op o_mul (pv 2) pe_int) (pe_op o_mod (pv 3) pe_int)) pe_int) pe_int))
     (pss_one (ps_if (pt_cmpR o_ge (pv 3) (pe_op o_pow pe_int pe_int) (nomark _))
     (pss_one (ps_expr (k_bm (K := K) rfl PySem.F.plainAttrs_list PySem.F.slot_list_append PySem.F.type_list_append mt_append (pv 1) (pa_cons (pe_op o_sub (pv 3) (pe_op o_pow pe_int pe_int)) pa_nil))))
     pss_nil)))))
     (pss_one (ps_ret (pe_lst (pa_cons (pv 1) (pa_cons (pv 2) (pa_cons pe_int pa_nil)))))))))), fun vs Q h D dnx drt => ?_⟩
  · obtain ⟨F0, a, ns, rfl, _⟩ := h
    rfl
  · obtain ⟨F0, a, ns, rfl, hS, hn, s0, q⟩ := h
    refine ⟨Nat.zero_le _, fun p hp => ?_⟩
    have o : (baseJ F0).Ok F0 H () := ⟨s0, (fun _ z => nomatch z), Same.refl _⟩
    have fp := o.fnone hp
    have np : p ∉ (baseJ F0).M := fun z => nomatch z
    have oL : ((baseJ F0).withL p).Ok F0 (upd H p (.lst [])) ((), []) := by
      have q := o.put0 (o := .lst []) fp np
      refine ⟨q.ex, fun m hm => ?_, q.c, [], upd_same, .nil⟩
      cases hm with
      | head => exact ⟨fp, by rw [upd_same]; exact fun z => nomatch z⟩
      | tail _ hm => exact q.mu m hm
    have e0 : Env F0 [some (.ref a), some (.ref p), none, none] [some (.raw (.ref a)), some (.raw (.ref p)), none, none] := .ens (.raw _) (.ens (.raw _) (.enn (.enn .en0)))
    show (tSeq (tAsg (tC (.int 5)) (gName 2)) (tSeq _ _)) D [some (.ref a), some (.ref p), none, none] (upd H p (.lst []))
    refine ws_run (J := (baseJ F0).withL p) (g := ((), [])) (P := fun ds' g' => ds' = [some (.raw (.ref a)), some (.raw (.ref p)), some (.int 5), none] ∧ g' = ((), [])) ?_ oL e0 ?_
    · walk_at "RN"
      first | rfl | exact ⟨rfl, rfl⟩
    rintro σ1 ds1 F1 H1 g1 ⟨rfl, rfl⟩ oL1 t1 e0
    show (tSeq (tFor (iList K (tVar 0)) (gName 3) _) (tRet _)) D σ1 H1
    refine ws_run (J := (baseJ F0).withL p) (g := ((), [])) (P := fun ds' g' => ∃ (fold : Int) (l : List Int) (s3 : Option Dv), ds' = [some (.raw (.ref a)), some (.raw (.ref p)), some (.int fold), s3] ∧ g' = ((), intsD l) ∧ (∀ x ∈ l, 0 ≤ x) ∧ 0 ≤ fold ∧ fold < 2147483629) ?_ oL1 e0 ?_
    · refine ws_for ?_
      refine wi_listK hS (fun F H g o => o.c.1) ?_
      walk_at "RN"
      refine ⟨fun i ds' g' => i ≤ 63 ∧ ∃ (fold : Int) (l : List Int) (s3 : Option Dv), ds' = [some (.raw (.ref a)), some (.raw (.ref p)), some (.int fold), s3] ∧ g' = ((), intsD l) ∧ (∀ x ∈ l, 0 ≤ x) ∧ 0 ≤ fold ∧ fold < 2147483629 ∧ l.length ≤ i, ⟨by decide, 5, [], none, rfl, rfl, (fun _ z => nomatch z), by decide, by decide, Nat.le_refl _⟩, ?_, ?_⟩
      · rintro i x ds' g' hx ⟨hi, fold, l, s3, rfl, rfl, hl, f0, f1, hli⟩
        obtain ⟨c, hc, rfl⟩ := List.mem_map.mp (List.mem_of_getElem? hx)
        have hi2 : i < ns.length := by
          have := (List.getElem?_eq_some_iff.mp hx).1
          simpa using this
        walk_at "XN"
        refine ws_ifX (decide (c < 0)) (.int (if c < 0 then 3 - c else c)) ?_ (fun z => ?_) (fun z => ?_) ?_
        · walk_at "RN"
          rfl
        · walk_at "RN"
          rw [if_pos (of_decide_eq_true z)]
          exact ⟨rfl, rfl⟩
        · rw [if_neg (of_decide_eq_false z)]
        generalize (if c < 0 then 3 - c else c) = c2
        walk_at "RN"
        refine ro_mul_l (by omega) ?_
        walk_at "RN"
        refine ro_pow ⟨by decide, by decide, by decide⟩ ?_
        walk_at "RN"
        refine ⟨fun e => ?_, fun e => ?_⟩
        · have e1 := of_decide_eq_true e
          refine ws_drop ?_
          refine we_appendL np ?_
          walk_at "RN"
          refine ro_pow ⟨by decide, by decide, by decide⟩ ?_
          walk_at "RN"
          refine ⟨by show (intsD l).length ≤ 50000; rw [List.length_map]; omega, by omega, _, l ++ [c2 - 10 ^ Int.toNat 18], _, rfl, by rw [← ints_app], ?_, Int.emod_nonneg _ (by decide), Int.emod_lt_of_pos _ (by decide), by rw [List.length_append]; simp; omega⟩
          intro x hx2
          rcases List.mem_append.mp hx2 with z | z
          · exact hl x z
          · have : x = c2 - 10 ^ Int.toNat 18 := by simpa using z
            rw [this]
            exact Int.sub_nonneg.mpr e1
        · refine ws_next ?_
          exact ⟨by omega, _, l, _, rfl, rfl, hl, Int.emod_nonneg _ (by decide), Int.emod_lt_of_pos _ (by decide), by omega⟩
      · rintro ds' g' ⟨hi, fold, l, s3, rfl, rfl, hl, f0, f1, hli⟩
        exact ⟨fold, l, s3, rfl, rfl, hl, f0, f1⟩
    · rintro σ' ds' F' H' g' ⟨fold, l, s3, rfl, rfl, hl, f0, f1⟩ o' t' e'
      show tRet (tLst (tCons (tVar 1) (tCons (tVar 2) (tCons (tC (.int 0)) tNil)))) D σ' H'
      obtain ⟨v1, h1, d1⟩ := e'.get (i := 1) rfl
      obtain ⟨v2, h2, d2⟩ := e'.get (i := 2) rfl
      cases d1
      cases d2
      obtain ⟨_, ws, hws, da⟩ := o'.c
      have ew := da.of_ints
      subst ew
      have mp := o'.mu p (.head _)
      refine ⟨_, h1, _, h2, by show 3 ≤ sizeLine; decide, fun b hb => drt _ _ ?_⟩
      have ne : p ≠ b := fun z => by
        rw [z, hb] at hws
        cases hws
      have fb := o'.fnone hb
      refine q b p fold F' _ ne f0 f1 (t1.f.trans t'.f) ⟨fun a u ha => ?_, fun m hm => ?_, upd_same, l, ?_, hl⟩
      · rw [upd_ne (ne_of_none ha fb)]
        exact o'.ex _ _ ha
      · have : m = b ∨ m = p := by simpa [bagT] using hm
        rcases this with rfl | rfl
        · exact ⟨fb, by rw [upd_same]; exact fun z => nomatch z⟩
        · exact ⟨mp.1, by rw [upd_ne ne]; exact mp.2⟩
      · rw [upd_ne ne]
        exact hws
abbrev s__law_draw : Stmt := top 39
theorem sc__law_draw : FnScope ["bag", "many", "great", "one", "mixed"] ["bag", "many"] (defScope s__law_draw) := ⟨rfl, rfl, rfl, by decide +kernel, rfl, by decide +kernel, by decide +kernel⟩
theorem df__law_draw (B : Bl mg) (F : FuD K mg "_law_draw" ["bag", "many"] s__law_draw) : Df P w K mg base "_law_draw" 1 ["bag", "many"] (spD S__law_draw) := by
  refine F.ok (n := 0) sc__law_draw (fun G J es g Φ h => ?_) fun f cdv A outer s H E hr => ⟨_, (have hu := hu_of hr; (pss_cons (ps_asg (pe_op (k_add (K := K) rfl) (pe_ix (k_ix (K := K) rfl) (pv 0) pe_int (fun _ _ => rfl)) pe_int) (pg_sub (pv 0) pe_int set_list))
     (pss_cons (ps_set (i := 2) sc__law_draw.nd rfl (Or.inl rfl) (pe_ix (k_ix (K := K) rfl) (pv 0) pe_int (fun _ _ => rfl)))
     (pss_cons (ps_while PassesOwn.never (PW.pt (pw_and (pt_cmpR (k_ne (K := K) rfl hr.units) (pv 2) (pe_lst pa_nil) (nomark _)) (pw_and1 (pt_cmpR (k_eq (K := K) rfl hr.units) (pe_ix (k_ix (K := K) rfl) (pv 2) pe_int (fun _ _ => rfl)) pe_int (nomark _)))))
     (pss_one (ps_expr (k_bm (K := K) rfl PySem.F.plainAttrs_list PySem.F.slot_list_pop PySem.F.type_list_pop mt_popAt (pv 2) (pa_cons pe_int pa_nil)))))
     (pss_cons (ps_if (pt_cmpR (k_ne (K := K) rfl hr.units) (pv 2) (pe_lst pa_nil) (nomark _))
     (pss_cons (ps_set (i := 3) sc__law_draw.nd rfl (Or.inl rfl) (pe_op o_mod (pe_ix (k_ix (K := K) rfl) (pv 2) pe_int (fun _ _ => rfl)) (pv 1)))
     (pss_cons (ps_asg (pe_op o_div (pe_ix (k_ix (K := K) rfl) (pv 2) pe_int (fun _ _ => rfl)) (pv 1)) (pg_sub (pv 2) pe_int set_list))
     (pss_one (ps_ret (pv 3)))))
     pss_nil)
     (pss_cons (ps_set (i := 4) sc__law_draw.nd rfl (Or.inl rfl) (pe_op o_mod (pe_op (k_add (K := K) rfl) (pe_op o_mul (pe_op (k_add (K := K) rfl) (pe_ix (k_ix (K := K) rfl) (pv 0) pe_int (fun _ _ => rfl)) pe_int) (pe_op o_pow (pe_op (k_add (K := K) rfl) (pe_ix (k_ix (K := K) rfl) (pv 0) pe_int (fun _ _ => rfl)) pe_int) pe_int)) (pe_op o_mul pe_int (pe_ix (k_ix (K := K) rfl) (pv 0) pe_int (fun _ _ => rfl)))) pe_int))
     (pss_one (ps_ret (pe_op o_mod (pe_op o_div (pe_op o_mod (pe_op o_pow (pv 4) pe_int) pe_int) pe_int) (pv 1)))))))))), fun G J es g Φ h => ?_⟩
  · obtain ⟨b, gr, fold, cnt, bump, many, rfl, _⟩ := h
    rfl
  · obtain ⟨b, gr, fold, cnt, bump, many, rfl, B, hm, hm2, hc, h⟩ := h
    have f0 := B.f0
    have f1 := B.f1
    walk_at "S"
    refine ws_openG B fun great hg => ?_
    refine ws_seq ?_
    refine ws_bag2 B ?_
    walk_at "RN"
    refine ro_bag B ⟨_, .int (cnt g : Int), rfl, fun F => .int _, ?_⟩
    walk_at "RN"
    refine ⟨cnt g + 1, rfl, rfl, ?_⟩
    walk_at "RN"
    refine ro_bag B ⟨_, .raw (.ref gr), rfl, fun F => .raw _, ?_⟩
    walk_at "RN"
    refine ws_while (fun gx => gx.1 = bump g (cnt g + 1) ∧ ∀ x ∈ gx.2, 0 ≤ x) (fun gx => gx.2.length) ⟨rfl, hg⟩ ?_
    rintro ⟨g1, l⟩ ⟨rfl, hl⟩
    walk_at "QN"
    refine wt_and ?_
    walk_at "QN"
    refine ro_ne_g B ?_
    rcases l with _ | ⟨x, xs⟩
    · walk_at "QN"
      refine ro_ne_g B ?_
      walk_at "QN"
      refine ro_bag B ⟨_, .int fold, rfl, fun F => .int _, ?_⟩
      walk_at "QN"
      refine ro_bag B ⟨_, .int ((cnt g + 1 : Nat) : Int), by rw [B.c1]; rfl, fun F => .int _, ?_⟩
      walk_at "QN"
      refine ro_pow ⟨by decide, by decide, by omega⟩ ?_
      refine ro_mul_l (by omega) ?_
      walk_at "QN"
      refine ro_bag B ⟨_, .int ((cnt g + 1 : Nat) : Int), by rw [B.c1]; rfl, fun F => .int _, ?_⟩
      walk_at "QN"
      refine ro_mul_l (by decide) ?_
      walk_at "QN"
      refine ro_pow ⟨by decide, by decide, by omega⟩ ?_
      walk_at "QN"
      refine ro_div (by decide) ?_
      walk_at "QN"
      refine ⟨hm, ?_⟩
      exact h _ (Int.emod_nonneg _ (by omega)) (Int.emod_lt_of_pos _ hm)
    · walk_at "QN"
      refine ro_ix_g B ?_
      walk_at "QN"
      refine ⟨fun e => ?_, fun e => ?_⟩
      · walk_at "QN"
        refine we_pop_g B ?_
        walk_at "QN"
        exact ⟨⟨rfl, fun y hy => hl y (.tail _ hy)⟩, Nat.lt_succ_self _⟩
      · walk_at "QN"
        refine ro_ne_g B ?_
        walk_at "QN"
        refine ro_ix_g B ?_
        walk_at "QN"
        refine ⟨hm, ?_⟩
        refine ws_seq ?_
        refine ws_set_g B ?_
        walk_at "QN"
        refine ro_ix_g B ?_
        walk_at "QN"
        refine ro_div ⟨hm, hm2⟩ ?_
        walk_at "QN"
        refine ⟨_, rfl, rfl, ?_, rfl, ?_⟩
        · exact Int.ediv_nonneg (hl x (.head _)) (by omega)
        · walk_at "QN"
          exact h _ (Int.emod_nonneg _ (by omega)) (Int.emod_lt_of_pos _ hm)
abbrev s__law_worth : Stmt := top 41
theorem sc__law_worth : FnScope ["bag", "kind"] ["bag"] (defScope s__law_worth) := ⟨rfl, rfl, rfl, by decide +kernel, rfl, by decide +kernel, by decide +kernel⟩
theorem df__law_worth (B : Bl mg) (D__law_draw : Df P w K mg base "_law_draw" 1 ["bag", "many"] (spD S__law_draw)) (F : FuD K mg "_law_worth" ["bag"] s__law_worth) : Df P w K mg base "_law_worth" 2 ["bag"] (spD S__law_worth) := by
  refine F.ok (n := 1) sc__law_worth (fun G J es g Φ h => ?_) fun f cdv A outer s H E hr => ⟨_, (have hu := hu_of hr; (pss_cons (ps_set (i := 1) sc__law_worth.nd rfl (Or.inl rfl) (pe_df D__law_draw (hr.mono (by decide)) (by rfl) (pa_cons (pv 0) (pa_cons pe_int pa_nil))))
     (pss_cons (ps_if (pt_cmpR o_lt (pv 1) pe_int (nomark _))
     (pss_one (ps_ret (pe_ix (k_ix (K := K) rfl) (pe_lst (pa_cons pe_int (pa_cons pe_int (pa_cons pe_int pa_nil)))) (pv 1) (fun _ _ => rfl))))
     pss_nil)
     (pss_cons (ps_if (pt_cmpR (k_eq (K := K) rfl hr.units) (pv 1) pe_int (nomark _))
     (pss_one (ps_ret (pe_df D__law_draw (hr.mono (by decide)) (by rfl) (pa_cons (pv 0) (pa_cons pe_int pa_nil)))))
     pss_nil)
     (pss_one (ps_ret (pe_op (k_add (K := K) rfl) (pe_op o_mul (pe_df D__law_draw (hr.mono (by decide)) (by rfl) (pa_cons (pv 0) (pa_cons pe_int pa_nil))) pe_int) (pe_df D__law_draw (hr.mono (by decide)) (by rfl) (pa_cons (pv 0) (pa_cons pe_int pa_nil)))))))))), fun G J es g Φ h => ?_⟩
  · obtain ⟨a, b, gr, fold, cnt, bump, rfl, _⟩ := h
    rfl
  · obtain ⟨⟨⟩, b, gr, fold, cnt, bump, rfl, B, ok, hc, h⟩ := h
    dsimp only at hc h ok
    walk_at "S"
    refine ws_start B ?_

    walk_at "RB"
    rename_i k k0 k1
    refine ⟨fun e => ?_, fun e => ?_⟩
    · have e1 := of_decide_eq_true e
      walk_at "RB"
      refine ex_any ?_
      refine ⟨k0, by simpa using e1, ?_⟩
      intro d hd
      refine h _ _ (by omega) (by omega) ?_
      simp only [List.mem_cons, List.not_mem_nil, or_false] at hd
      rcases hd with rfl | rfl | rfl
      · exact ⟨_, rfl, by decide⟩
      · exact ⟨_, rfl, by decide⟩
      · exact ⟨_, rfl, by decide⟩
    · walk_at "RB"
      refine ⟨fun e => ?_, fun e => ?_⟩
      · walk_at "RB"
        rename_i i i0 i1
        exact h _ _ (by omega) (by omega) ⟨i, rfl, by omega⟩
      · walk_at "RB"
        refine ro_mul_l (by omega) ?_
        walk_at "RB"
        exact h _ _ (by omega) (by omega) ⟨_, rfl, by omega, by omega⟩
abbrev s__law_row : Stmt := top 42
theorem sc__law_row : FnScope ["bag", "many", "spots", "kind", "d", "a", "b", "n"] ["bag", "many", "spots"] (defScope s__law_row) := ⟨rfl, rfl, rfl, by decide +kernel, rfl, by decide +kernel, by decide +kernel⟩
theorem df__law_row (B : Bl mg) (D__law_draw : Df P w K mg base "_law_draw" 1 ["bag", "many"] (spD S__law_draw)) (D__law_worth : Df P w K mg base "_law_worth" 2 ["bag"] (spD S__law_worth)) (F : FuD K mg "_law_row" ["bag", "many", "spots"] s__law_row) : Df P w K mg base "_law_row" 3 ["bag", "many", "spots"] (spD S__law_row) := by
  refine F.ok (n := 2) sc__law_row (fun G J es g Φ h => ?_) fun f cdv A outer s H E hr => ⟨_, (have hu := hu_of hr; (pss_cons (ps_set (i := 3) sc__law_row.nd rfl (Or.inl rfl) (pe_ix (k_ix (K := K) rfl) (pe_lst (pa_cons pe_int (pa_cons pe_int (pa_cons pe_int (pa_cons pe_int (pa_cons pe_int (pa_cons pe_int (pa_cons pe_int (pa_cons pe_int (pa_cons pe_int (pa_cons pe_int (pa_cons pe_int (pa_cons pe_int (pa_cons pe_int pa_nil)))))))))))))) (pe_df D__law_draw (hr.mono (by decide)) (by rfl) (pa_cons (pv 0) (pa_cons pe_int pa_nil))) (fun _ _ => rfl)))
     (pss_cons (ps_set (i := 4) sc__law_row.nd rfl (Or.inl rfl) (pe_df D__law_draw (hr.mono (by decide)) (by rfl) (pa_cons (pv 0) (pa_cons (pv 2) pa_nil))))
     (pss_cons (ps_set (i := 5) sc__law_row.nd rfl (Or.inl rfl) (pe_df D__law_draw (hr.mono (by decide)) (by rfl) (pa_cons (pv 0) (pa_cons (pv 2) pa_nil))))
     (pss_cons (ps_set (i := 6) sc__law_row.nd rfl (Or.inl rfl) (pe_df D__law_draw (hr.mono (by decide)) (by rfl) (pa_cons (pv 0) (pa_cons (pv 2) pa_nil))))
     (pss_cons (ps_set (i := 7) sc__law_row.nd rfl (Or.inl rfl) (pe_df D__law_draw (hr.mono (by decide)) (by rfl) (pa_cons (pv 0) (pa_cons pe_int pa_nil))))
     (pss_cons (ps_if (pt_cmpR (k_eq (K := K) rfl hr.units) (pv 3) pe_int (nomark _))
     (pss_one (ps_ret (pe_tup (pa_cons pe_str (pa_cons (pv 4) (pa_cons (pe_df D__law_worth (hr.mono (by decide)) (by rfl) (pa_cons (pv 0) pa_nil)) pa_nil))))))
     pss_nil)
     (pss_cons (ps_if (pt_cmpR o_lt (pv 3) pe_int (nomark _))
     (pss_one (ps_ret (pe_tup (pa_cons (pe_ix (k_ix (K := K) rfl) (pe_lst (pa_cons pe_str (pa_cons pe_str (pa_cons pe_str pa_nil)))) (pe_op o_sub (pv 3) pe_int) (fun _ _ => rfl)) (pa_cons (pv 4) (pa_cons (pv 5) (pa_cons (pv 6) pa_nil)))))))
     pss_nil)
     (pss_cons (ps_if (pt_cmpR o_lt (pv 3) pe_int (nomark _))
     (pss_one (ps_ret (pe_ix (k_ix (K := K) rfl) (pe_lst (pa_cons (pe_tup (pa_cons pe_str (pa_cons (pv 4) (pa_cons (pv 5) (pa_cons (pv 7) pa_nil))))) (pa_cons (pe_tup (pa_cons pe_str (pa_cons (pv 6) (pa_cons (pv 5) (pa_cons (pv 7) pa_nil))))) pa_nil))) (pe_op o_sub (pv 3) pe_int) (fun _ _ => rfl))))
     pss_nil)
     (pss_cons (ps_if (pt_cmpR (k_eq (K := K) rfl hr.units) (pv 3) pe_int (nomark _))
     (pss_one (ps_ret (pe_tup (pa_cons pe_str (pa_cons (pv 5) (pa_cons (pe_df D__law_draw (hr.mono (by decide)) (by rfl) (pa_cons (pv 0) (pa_cons (pe_op (k_add (K := K) rfl) (pv 1) pe_int) pa_nil))) pa_nil))))))
     pss_nil)
     (pss_one (ps_ret (pe_tup (pa_cons (pe_ix (k_ix (K := K) rfl) (pe_lst (pa_cons pe_str (pa_cons pe_str (pa_cons pe_str pa_nil)))) (pe_op o_sub (pv 3) pe_int) (fun _ _ => rfl)) pa_nil)))))))))))))), fun G J es g Φ h => ?_⟩
  · obtain ⟨a, b, gr, fold, cnt, bump, rfl, _⟩ := h
    rfl
  · obtain ⟨⟨many, spots⟩, b, gr, fold, cnt, bump, rfl, B, ok, hc, h⟩ := h
    dsimp only at hc h ok
    walk_at "S"
    refine ws_start B ?_

    obtain ⟨ok1, ok2, ok3⟩ := ok
    walk_at "RB"
    rename_i i i0 i1
    refine ex_ints [0, 1, 2, 3, 3, 4, 4, 5, 5, 6, 7, 8, 9] ?_
    refine ⟨i0, by simpa using i1, fun kind hk => ?_⟩
    have hk2 : 0 ≤ kind ∧ kind ≤ 9 := (by decide : ∀ d ∈ ([0, 1, 2, 3, 3, 4, 4, 5, 5, 6, 7, 8, 9] : List Int), 0 ≤ d ∧ d ≤ 9) kind hk
    walk_at "RB"
    rename_i d d0 d1 a a0 a1 b2 b0 b1 n n0 n1
    obtain ⟨d, rfl⟩ := Int.eq_ofNat_of_zero_le d0
    obtain ⟨a, rfl⟩ := Int.eq_ofNat_of_zero_le a0
    obtain ⟨b2, rfl⟩ := Int.eq_ofNat_of_zero_le b0

    refine ⟨fun e => ?_, fun e => ?_⟩
    · walk_at "RB"
      refine ⟨(), _, _, rfl, rfl, True.intro, by omega, ?_⟩
      rintro _ m m0 m1 ⟨x, rfl, x0, x1⟩
      walk_at "RB"
      exact h _ _ (by omega) (by omega) ⟨.put d x, rfl, ⟨by omega, x0, x1⟩, fun _ _ z => nomatch z⟩
    have e1 := of_decide_eq_false e
    walk_at "RB"
    refine ⟨fun e => ?_, fun e => ?_⟩
    · have e2 := of_decide_eq_true e
      obtain rfl | rfl | rfl : kind = 1 ∨ kind = 2 ∨ kind = 3 := by omega
      · walk_at "RB"
        exact h _ _ (by omega) (by omega) ⟨.sum d a b2, rfl, ⟨by omega, by omega, by omega⟩, fun _ _ z => nomatch z⟩
      · walk_at "RB"
        exact h _ _ (by omega) (by omega) ⟨.less d a b2, rfl, ⟨by omega, by omega, by omega⟩, fun _ _ z => nomatch z⟩
      · walk_at "RB"
        exact h _ _ (by omega) (by omega) ⟨.mul d a b2, rfl, ⟨by omega, by omega, by omega⟩, fun _ _ z => nomatch z⟩
    have e2 := of_decide_eq_false e
    walk_at "RB"
    refine ⟨fun e => ?_, fun e => ?_⟩
    · have e3 := of_decide_eq_true e
      obtain rfl | rfl : kind = 4 ∨ kind = 5 := by omega
      · walk_at "RB"
        exact h _ _ (by omega) (by omega) ⟨.take d a n, rfl, ⟨by omega, by omega⟩, fun _ _ z => nomatch z⟩
      · walk_at "RB"
        exact h _ _ (by omega) (by omega) ⟨.lay b2 a n, rfl, ⟨by omega, by omega⟩, fun _ _ z => nomatch z⟩
    have e3 := of_decide_eq_false e
    walk_at "RB"
    refine ⟨fun e => ?_, fun e => ?_⟩
    · have e4 := of_decide_eq_true e
      walk_at "RB"
      rename_i x x0 x1
      exact h _ _ (by omega) (by omega) ⟨.go a x, rfl, (by show a < 8; omega), fun y p z => by cases z; omega⟩
    have e4 := of_decide_eq_false e
    obtain rfl | rfl | rfl : kind = 7 ∨ kind = 8 ∨ kind = 9 := by omega
    · walk_at "RB"
      exact h _ _ (by omega) (by omega) ⟨.shut, rfl, True.intro, fun _ _ z => nomatch z⟩
    · walk_at "RB"
      exact h _ _ (by omega) (by omega) ⟨.opn, rfl, True.intro, fun _ _ z => nomatch z⟩
    · walk_at "RB"
      exact h _ _ (by omega) (by omega) ⟨.home, rfl, True.intro, fun _ _ z => nomatch z⟩
abbrev s__law_mill : Stmt := top 43
theorem sc__law_mill : FnScope ["bag", "many", "spots", "k", "bells"] ["bag"] (defScope s__law_mill) := ⟨rfl, rfl, rfl, by decide +kernel, rfl, by decide +kernel, by decide +kernel⟩
theorem df__law_mill (B : Bl mg) (D__law_draw : Df P w K mg base "_law_draw" 1 ["bag", "many"] (spD S__law_draw)) (D__law_row : Df P w K mg base "_law_row" 3 ["bag", "many", "spots"] (spD S__law_row)) (F : FuD K mg "_law_mill" ["bag"] s__law_mill) : Df P w K mg base "_law_mill" 4 ["bag"] (spD S__law_mill) := by
  refine F.ok (n := 3) sc__law_mill (fun G J es g Φ h => ?_) fun f cdv A outer s H E hr => ⟨_, (have hu := hu_of hr; (pss_cons (ps_set (i := 1) sc__law_mill.nd rfl (Or.inr rfl) (pe_op (k_add (K := K) rfl) pe_int (pe_df D__law_draw (hr.mono (by decide)) (by rfl) (pa_cons (pv 0) (pa_cons (pe_ix (k_ix (K := K) rfl) (pe_lst (pa_cons pe_int (pa_cons pe_int (pa_cons pe_int pa_nil)))) (pe_df D__law_draw (hr.mono (by decide)) (by rfl) (pa_cons (pv 0) (pa_cons pe_int pa_nil))) (fun _ _ => rfl)) pa_nil)))))
     (pss_cons (ps_set (i := 2) sc__law_mill.nd rfl (Or.inr rfl) (pe_ix (k_ix (K := K) rfl) (pe_lst (pa_cons pe_int (pa_cons pe_int pa_nil))) (pe_df D__law_draw (hr.mono (by decide)) (by rfl) (pa_cons (pv 0) (pa_cons pe_int pa_nil))) (fun _ _ => rfl)))
     (pss_cons (ps_set (i := 4) sc__law_mill.nd rfl (Or.inl rfl) (pe_callTy (k_tup (K := K) rfl) (by rfl) B.tuple_ (by decide +kernel) (pa_cons (pe_lc (own := [("k", 3)]) (g := gName 3) (by rfl) sc__law_mill.nd (pi_range1 (by rfl) B.range_ (pa_cons (pe_df D__law_draw (hr.mono (by decide)) (by rfl) (pa_cons (pv 0) (pa_cons pe_int pa_nil))) pa_nil)) (blkOk_by (own := [("k", 3)]) (N := ["bag", "many", "spots", "k", "bells"]) (sc := defScope s__law_mill) (by decide +kernel)) (fun _ _ _ _ _ => pg_name (i := 3) sc__law_mill.nd rfl (Or.inl rfl)) (fun _ _ _ _ _ => pts_nil) (fun _ _ _ _ _ => (pe_df D__law_draw (hr.mono (by decide)) (by rfl) (pa_cons (pv 0) (pa_cons (pe_op (k_add (K := K) rfl) (pv 1) pe_int) pa_nil))))) pa_nil)))
     (pss_one (ps_ret (pe_tup (pa_cons (pe_callTy (k_tup (K := K) rfl) (by rfl) B.tuple_ (by decide +kernel) (pa_cons (pe_lc (own := [("k", 3)]) (g := gName 3) (by rfl) sc__law_mill.nd (pi_range1 (by rfl) B.range_ (pa_cons (pv 1) pa_nil)) (blkOk_by (own := [("k", 3)]) (N := ["bag", "many", "spots", "k", "bells"]) (sc := defScope s__law_mill) (by decide +kernel)) (fun _ _ _ _ _ => pg_name (i := 3) sc__law_mill.nd rfl (Or.inl rfl)) (fun _ _ _ _ _ => pts_nil) (fun _ _ _ _ _ => (pe_df D__law_row (hr.mono (by decide)) (by rfl) (pa_cons (pv 0) (pa_cons (pv 1) (pa_cons (pv 2) pa_nil)))))) pa_nil)) (pa_cons (pv 4) pa_nil))))))))), fun G J es g Φ h => ?_⟩
  · obtain ⟨a, b, gr, fold, cnt, bump, rfl, _⟩ := h
    rfl
  · obtain ⟨⟨⟩, b, gr, fold, cnt, bump, rfl, B, ok, hc, h⟩ := h
    dsimp only at hc h ok
    walk_at "S"
    refine ws_start B ?_

    walk_at "RB"
    rename_i i i0 i1
    refine ex_ints [8, 12, 40] ?_
    refine ⟨i0, by simpa using i1, fun mx hm => ?_⟩
    have hm2 : 8 ≤ mx ∧ mx ≤ 40 := (by decide : ∀ d ∈ ([8, 12, 40] : List Int), 8 ≤ d ∧ d ≤ 40) mx hm
    walk_at "RB"
    rename_i mm m0 m1 s s0 s1
    refine ex_ints [8, 3] ?_
    refine ⟨s0, by simpa using s1, fun sp hs => ?_⟩
    have hs2 : 3 ≤ sp ∧ sp ≤ 8 := (by decide : ∀ d ∈ ([8, 3] : List Int), 3 ≤ d ∧ d ≤ 8) sp hs
    obtain ⟨mm, rfl⟩ := Int.eq_ofNat_of_zero_le m0
    obtain ⟨sp, rfl⟩ := Int.eq_ofNat_of_zero_le (show 0 ≤ sp by omega)
    walk_at "RB"
    refine we_lcD (bump := bump) ?_
    refine wi_rng ?_
    walk_at "RB"
    rename_i nb nb0 nb1
    obtain ⟨nb, rfl⟩ := Int.eq_ofNat_of_zero_le nb0
    refine ⟨nb, rfl, by omega, nb, _, 1, g, isI fun p => 0 ≤ p ∧ p ≤ 1 + (mm : Int), rfl, by omega, rfl, fun x n n0 n1 => ?_, fun acc m2 hl hP m20 m21 => ?_⟩
    · walk_at "W"
      walk_at "RB"
      rename_i y y0 y1
      exact ⟨⟨y, rfl, y0, by omega⟩, n + 1, by omega, by omega, rfl⟩
    obtain ⟨bl, rfl, hbl⟩ := all_map Dv.int hP
    rw [List.length_map] at hl
    walk_at "RB"
    refine rc_tup_l ?_
    walk_at "RB"
    refine we_lcD (bump := bump) ?_
    refine wi_rng ?_
    walk_at "RB"
    have hmm : 1 + mm ≤ 100000 := by omega
    refine ⟨hmm, 1 + mm, m2, 10, g, (fun d => ∃ r : Row, d = rowD r ∧ (r.ok ∧ ∀ x p, r = .go x p → 0 ≤ p ∧ p ≤ 1 + (mm : Int))), rfl, by omega, rfl, fun x n n0 n1 => ?_, fun acc m3 hl3 hP3 m30 m31 => ?_⟩
    · walk_at "W"
      walk_at "RB"
      refine ⟨(1 + mm, sp), _, _, rfl, rfl, ⟨by omega, by omega, by omega⟩, by omega, ?_⟩
      rintro _ m h0 h1 ⟨r, rfl, hr1, hr2⟩
      exact ⟨⟨r, rfl, hr1, fun x p z => by have := hr2 x p z; omega⟩, m, h0, h1, rfl⟩
    obtain ⟨rl, rfl, hrl⟩ := all_map rowD hP3
    rw [List.length_map] at hl3
    walk_at "RB"
    refine rc_tup_l ?_
    walk_at "RB"
    refine h _ _ (by omega) (by omega) ⟨⟨rl, bl⟩, rfl, ?_⟩
    refine ⟨fun r hr => (hrl r hr).1, fun r hr a p z => ?_, fun p hp => ?_, by show bl.length ≤ 4; omega, by show rl.length ≤ 40; omega⟩
    · have := (hrl r hr).2 a p z
      refine ⟨this.1, ?_⟩
      show p ≤ (rl.length : Int)
      omega
    · have := hbl p hp
      refine ⟨this.1, ?_⟩
      show p ≤ (rl.length : Int)
      omega
abbrev s__law_state : Stmt := top 44
theorem sc__law_state : FnScope ["bag", "mill", "place", "kept", "k", "spots", "cells"] ["bag", "mill"] (defScope s__law_state) := ⟨rfl, rfl, rfl, by decide +kernel, rfl, by decide +kernel, by decide +kernel⟩
theorem df__law_state (B : Bl mg) (D__law_draw : Df P w K mg base "_law_draw" 1 ["bag", "many"] (spD S__law_draw)) (D__law_worth : Df P w K mg base "_law_worth" 2 ["bag"] (spD S__law_worth)) (F : FuD K mg "_law_state" ["bag", "mill"] s__law_state) : Df P w K mg base "_law_state" 3 ["bag", "mill"] (spD S__law_state) := by
  refine F.ok (n := 2) sc__law_state (fun G J es g Φ h => ?_) fun f cdv A outer s H E hr => ⟨_, (have hu := hu_of hr; (pss_cons (ps_set (i := 2) sc__law_state.nd rfl (Or.inl rfl) (pe_op o_mul (pe_df D__law_draw (hr.mono (by decide)) (by rfl) (pa_cons (pv 0) (pa_cons (pe_op (k_add (K := K) rfl) (pe_callB (k_len (K := K) rfl) (by rfl) B.len_ PySem.boot_len (pa_cons (pe_ix (k_ix (K := K) rfl) (pv 1) pe_int (fun _ _ => rfl)) pa_nil)) pe_int) pa_nil))) (pe_df D__law_draw (hr.mono (by decide)) (by rfl) (pa_cons (pv 0) (pa_cons pe_int pa_nil)))))
     (pss_cons (ps_set (i := 3) sc__law_state.nd rfl (Or.inl rfl) (pe_ix (k_ix (K := K) rfl) (pe_lst (pa_cons pe_non (pa_cons pe_non (pa_cons (pe_df D__law_draw (hr.mono (by decide)) (by rfl) (pa_cons (pv 0) (pa_cons (pe_op (k_add (K := K) rfl) (pe_callB (k_len (K := K) rfl) (by rfl) B.len_ PySem.boot_len (pa_cons (pe_ix (k_ix (K := K) rfl) (pv 1) pe_int (fun _ _ => rfl)) pa_nil)) pe_int) pa_nil))) pa_nil)))) (pe_df D__law_draw (hr.mono (by decide)) (by rfl) (pa_cons (pv 0) (pa_cons pe_int pa_nil))) (fun _ _ => rfl)))
     (pss_cons (ps_set (i := 5) sc__law_state.nd rfl (Or.inl rfl) (pe_callTy (k_tup (K := K) rfl) (by rfl) B.tuple_ (by decide +kernel) (pa_cons (pe_lc (own := [("k", 4)]) (g := gName 4) (by rfl) sc__law_state.nd (pi_range1 (by rfl) B.range_ (pa_cons pe_int pa_nil)) (blkOk_by (own := [("k", 4)]) (N := ["bag", "mill", "place", "kept", "k", "spots", "cells"]) (sc := defScope s__law_state) (by decide +kernel)) (fun _ _ _ _ _ => pg_name (i := 4) sc__law_state.nd rfl (Or.inl rfl)) (fun _ _ _ _ _ => pts_nil) (fun _ _ _ _ _ => (pe_df D__law_worth (hr.mono (by decide)) (by rfl) (pa_cons (pv 0) pa_nil)))) pa_nil)))
     (pss_cons (ps_set (i := 6) sc__law_state.nd rfl (Or.inl rfl) (pe_callTy (k_tup (K := K) rfl) (by rfl) B.tuple_ (by decide +kernel) (pa_cons (pe_op o_mul (pe_lc (own := [("k", 4)]) (g := gName 4) (by rfl) sc__law_state.nd (pi_range1 (by rfl) B.range_ (pa_cons pe_int pa_nil)) (blkOk_by (own := [("k", 4)]) (N := ["bag", "mill", "place", "kept", "k", "spots", "cells"]) (sc := defScope s__law_state) (by decide +kernel)) (fun _ _ _ _ _ => pg_name (i := 4) sc__law_state.nd rfl (Or.inl rfl)) (fun _ _ _ _ _ => pts_nil) (fun _ _ _ _ _ => (pe_df D__law_worth (hr.mono (by decide)) (by rfl) (pa_cons (pv 0) pa_nil)))) pe_int) pa_nil)))
     (pss_one (ps_ret (pe_tup (pa_cons (pv 2) (pa_cons (pv 5) (pa_cons (pv 6) (pa_cons (pe_cmpR (k_eq (K := K) rfl hr.units) (pe_df D__law_draw (hr.mono (by decide)) (by rfl) (pa_cons (pv 0) (pa_cons pe_int pa_nil))) pe_int (nomark _)) (pa_cons (pv 3) pa_nil))))))))))))), fun G J es g Φ h => ?_⟩
  · obtain ⟨a, b, gr, fold, cnt, bump, rfl, _⟩ := h
    rfl
  · obtain ⟨m, b, gr, fold, cnt, bump, rfl, B, ok, hc, h⟩ := h
    dsimp only at hc h ok
    walk_at "S"
    refine ws_start B ?_

    have hn : (m.rows.map rowD).length ≤ 40 := by rw [List.length_map]; exact ok.nr
    walk_at "RB"
    rename_i i i0 i1 j j0 j1
    refine ro_mul_r (by omega) ?_
    obtain ⟨q, hq, q0, q1⟩ : ∃ q, i * j = q ∧ 0 ≤ q ∧ q ≤ m.rows.length := by
      rw [List.length_map] at i1
      obtain rfl | rfl : j = 0 ∨ j = 1 := by omega
      · exact ⟨0, by omega, by omega, by omega⟩
      · exact ⟨i, by omega, by omega, by omega⟩
    rw [hq]
    walk_at "RB"
    rename_i kv kv0 kv1 ki ki0 ki1
    refine ex_any ⟨ki0, by simpa using ki1, fun d hd => ?_⟩
    obtain ⟨ko, rfl, hko⟩ : ∃ o : Option Int, d = optD o ∧ ∀ p, o = some p → 0 ≤ p ∧ p ≤ m.rows.length := by
      rw [List.length_map] at kv1
      simp only [List.mem_cons, List.not_mem_nil, or_false] at hd
      rcases hd with rfl | rfl | rfl
      · exact ⟨none, rfl, fun _ z => nomatch z⟩
      · exact ⟨none, rfl, fun _ z => nomatch z⟩
      · exact ⟨some kv, rfl, fun p z => by cases z; omega⟩
    walk_at "RB"
    refine we_lcD (bump := bump) ?_
    refine wi_rng ?_
    walk_at "RB"
    refine ⟨8, _, 3, g, isI fun p => 0 ≤ p ∧ p < 4294967296, rfl, by omega, rfl, fun x n n0 n1 => ?_, fun acc m2 hl hP m20 m21 => ?_⟩
    · walk_at "W"
      walk_at "RB"
      refine ⟨(), _, _, rfl, rfl, True.intro, by omega, ?_⟩
      rintro _ m h0 h1 hR
      exact ⟨hR, m, h0, h1, rfl⟩
    obtain ⟨sl, rfl, hsl⟩ := all_map Dv.int hP
    rw [List.length_map] at hl
    walk_at "RB"
    refine rc_tup_l ?_
    walk_at "RB"
    refine we_lcD (bump := bump) ?_
    refine wi_rng ?_
    walk_at "RB"
    refine ⟨4, _, 3, g, isI fun p => 0 ≤ p ∧ p < 4294967296, rfl, by omega, rfl, fun x n n0 n1 => ?_, fun acc m3 hl3 hP3 m30 m31 => ?_⟩
    · walk_at "W"
      walk_at "RB"
      refine ⟨(), _, _, rfl, rfl, True.intro, by omega, ?_⟩
      rintro _ m h0 h1 hR
      exact ⟨hR, m, h0, h1, rfl⟩
    obtain ⟨cl, rfl, hcl⟩ := all_map Dv.int hP3
    rw [List.length_map] at hl3
    walk_at "RB"
    refine ro_rep (n := 4) (by rw [List.length_map, hl3]; decide) (by decide) ?_
    walk_at "RB"
    refine rc_tup_l ?_
    walk_at "RB"
    rename_i sh sh0 sh1
    have e4 : (List.replicate 4 (List.map Dv.int cl)).flatten = intsD (cl ++ cl ++ cl ++ cl) := by
      simp [List.replicate, intsD]
    rw [e4]
    refine h _ _ (by omega) (by omega) ⟨⟨q, sl, cl ++ cl ++ cl ++ cl, decide (sh = 3), ko⟩, rfl, ?_⟩
    refine ⟨q0, q1, hl, by simp only [List.length_append]; omega, hsl, fun v hv => hcl v ?_, hko⟩
    simpa [List.mem_append] using hv
abbrev s__law_far : Stmt := top 40
theorem sc__law_far : FnScope ["bag", "far", "k"] ["bag"] (defScope s__law_far) := ⟨rfl, rfl, rfl, by decide +kernel, rfl, by decide +kernel, by decide +kernel⟩
theorem df__law_far (B : Bl mg) (D__law_draw : Df P w K mg base "_law_draw" 1 ["bag", "many"] (spD S__law_draw)) (F : FuD K mg "_law_far" ["bag"] s__law_far) : Df P w K mg base "_law_far" 2 ["bag"] (spD S__law_far) := by
  refine F.ok (n := 1) sc__law_far (fun G J es g Φ h => ?_) fun f cdv A outer s H E hr => ⟨_, (have hu := hu_of hr; (pss_cons (ps_set (i := 1) sc__law_far.nd rfl (Or.inl rfl) pe_int)
     (pss_cons (ps_for PassesOwn.never rfl (pi_range1 (by rfl) B.range_ (pa_cons pe_int pa_nil)) (pg_name (i := 2) sc__law_far.nd rfl (Or.inl rfl))
     (pss_one (ps_set (i := 1) sc__law_far.nd rfl (Or.inl rfl) (pe_op (k_add (K := K) rfl) (pe_op o_mul (pv 1) (pe_op o_pow pe_int pe_int)) (pe_df D__law_draw (hr.mono (by decide)) (by rfl) (pa_cons (pv 0) (pa_cons (pe_op o_pow pe_int pe_int) pa_nil)))))))
     (pss_one (ps_ret (pv 1)))))), fun G J es g Φ h => ?_⟩
  · obtain ⟨a, b, gr, fold, cnt, bump, rfl, _⟩ := h
    rfl
  · obtain ⟨⟨⟩, b, gr, fold, cnt, bump, rfl, B, ok, hc, h⟩ := h
    dsimp only at hc h ok
    walk_at "S"
    refine ws_start B ?_

    walk_at "RB"
    refine ws_for ?_
    refine wi_rng ?_
    walk_at "RB"
    refine ⟨fun i ds' g' => ∃ (x : Int) (k : Option Dv), 0 ≤ x ∧ ds' = [some (.raw (.ref b)), some (.int x), k] ∧ g' = bump g (cnt g + i), ⟨0, none, by decide, rfl, rfl⟩, ?_, ?_⟩
    · rintro i x ds' g' hx ⟨far, k, h0, rfl, rfl⟩
      have hi : i < 7 := by
        have := (List.getElem?_eq_some_iff.mp hx).1
        simpa [rngD] using this
      walk_at "RB"
      refine ro_pow ⟨by decide, by decide, by decide⟩ ?_
      refine ro_mul_r (by decide) ?_
      walk_at "RB"
      refine ro_pow ⟨by decide, by decide, by decide⟩ ?_
      walk_at "RB"
      refine ⟨_, _, _, rfl, rfl, ⟨by decide, by decide⟩, by omega, fun v v0 v1 => ?_⟩
      walk_at "RB"
      exact ⟨_, _, Int.add_nonneg (Int.mul_nonneg h0 (by decide)) v0, rfl, rfl⟩
    · rintro ds' g' ⟨x, k, h0, rfl, rfl⟩
      walk_at "RB"
      exact h _ _ (by omega) (by simp [rngD]) ⟨x, rfl, h0⟩
abbrev s__law_rings : Stmt := top 45
theorem sc__law_rings : FnScope ["bag", "mill", "base", "rings", "turn", "at"] ["bag", "mill", "base"] (defScope s__law_rings) := ⟨rfl, rfl, rfl, by decide +kernel, rfl, by decide +kernel, by decide +kernel⟩
theorem df__law_rings (B : Bl mg) (D__law_draw : Df P w K mg base "_law_draw" 1 ["bag", "many"] (spD S__law_draw)) (D__law_far : Df P w K mg base "_law_far" 2 ["bag"] (spD S__law_far)) (F : FuD K mg "_law_rings" ["bag", "mill", "base"] s__law_rings) : Df P w K mg base "_law_rings" 3 ["bag", "mill", "base"] (spD S__law_rings) := by
  refine F.ok (n := 2) sc__law_rings (fun G J es g Φ h => ?_) fun f cdv A outer s H E hr => ⟨_, (have hu := hu_of hr; (pss_cons (ps_set (i := 3) sc__law_rings.nd rfl (Or.inl rfl) (pe_lst pa_nil))
     (pss_cons (ps_if (pt_cmpR (k_ne (K := K) rfl hr.units) (pe_ix (k_ix (K := K) rfl) (pv 1) pe_int (fun _ _ => rfl)) (pe_tup pa_nil) (nomark _))
     (pss_one (ps_for PassesOwn.never rfl (pi_range1 (by rfl) B.range_ (pa_cons (pe_df D__law_draw (hr.mono (by decide)) (by rfl) (pa_cons (pv 0) (pa_cons (pe_ix (k_ix (K := K) rfl) (pe_lst (pa_cons pe_int (pa_cons pe_int (pa_cons pe_int (pa_cons pe_int pa_nil))))) (pe_df D__law_draw (hr.mono (by decide)) (by rfl) (pa_cons (pv 0) (pa_cons pe_int pa_nil))) (fun _ _ => rfl)) pa_nil))) pa_nil)) (pg_name (i := 4) sc__law_rings.nd rfl (Or.inl rfl))
     (pss_cons (ps_set (i := 5) sc__law_rings.nd rfl (Or.inl rfl) (pe_lst (pa_cons (pe_op (k_add (K := K) rfl) (pv 2) (pe_df D__law_draw (hr.mono (by decide)) (by rfl) (pa_cons (pv 0) (pa_cons pe_int pa_nil)))) (pa_cons (pe_df D__law_draw (hr.mono (by decide)) (by rfl) (pa_cons (pv 0) (pa_cons pe_int pa_nil))) (pa_cons (pe_op (k_add (K := K) rfl) (pe_op (k_add (K := K) rfl) (pv 2) pe_int) (pe_df D__law_far (hr.mono (by decide)) (by rfl) (pa_cons (pv 0) pa_nil))) pa_nil)))))
     (pss_one (ps_expr (k_bm (K := K) rfl PySem.F.plainAttrs_list PySem.F.slot_list_append PySem.F.type_list_append mt_append (pv 3) (pa_cons (pe_tup (pa_cons (pe_ix (k_ix (K := K) rfl) (pv 5) (pe_ix (k_ix (K := K) rfl) (pe_lst (pa_cons pe_int (pa_cons pe_int (pa_cons pe_int (pa_cons pe_int (pa_cons pe_int pa_nil)))))) (pe_df D__law_draw (hr.mono (by decide)) (by rfl) (pa_cons (pv 0) (pa_cons pe_int pa_nil))) (fun _ _ => rfl)) (fun _ _ => rfl)) (pa_cons (pe_df D__law_draw (hr.mono (by decide)) (by rfl) (pa_cons (pv 0) (pa_cons (pe_callB (k_len (K := K) rfl) (by rfl) B.len_ PySem.boot_len (pa_cons (pe_ix (k_ix (K := K) rfl) (pv 1) pe_int (fun _ _ => rfl)) pa_nil)) pa_nil))) pa_nil))) pa_nil)))))))
     pss_nil)
     (pss_one (ps_ret (pv 3)))))), fun G J es g Φ h => ?_⟩
  · obtain ⟨a, b, gr, fold, cnt, bump, rfl, _⟩ := h
    rfl
  · obtain ⟨⟨m, base⟩, b, gr, fold, cnt, bump, rfl, B, ok, hc, h⟩ := h
    dsimp only at hc h ok
    walk_at "S"
    refine ws_start B ?_

    refine ws_newL ?_
    refine wa_nil ⟨Nat.le_of_ble_eq_true rfl, fun p np => ?_⟩
    have hnb := ok.nb
    have hlen : (intsD m.bells).length = m.bells.length := List.length_map _
    refine ws_seq ?_
    refine ws_if ?_
    walk_at "RL"
    refine ro_ne_nilT 0 (by decide) (ok_ints _ _) ?_
    walk_at "RL"
    refine ⟨fun e => ?_, fun e => ?_⟩
    · have hpos : 0 < m.bells.length := by
        cases hb : m.bells with
        | nil => rw [hb] at e; cases e
        | cons x xs => simp
      refine ws_forS (vs := [4, 5]) ?_
      refine wi_rng ?_
      walk_at "RL"
      rename_i i i0 i1
      refine ex_ints [9, 9, 9, 61] ⟨i0, by simpa using i1, fun mx hm => ?_⟩
      have hm2 : 9 ≤ mx ∧ mx ≤ 61 := (by decide : ∀ d ∈ ([9, 9, 9, 61] : List Int), 9 ≤ d ∧ d ≤ 61) mx hm
      walk_at "RL"
      rename_i t t0 t1
      obtain ⟨t, rfl⟩ := Int.eq_ofNat_of_zero_le t0
      refine ⟨t, rfl, by omega, fun i gx => ∃ (l : Rings) (n : Nat), gx = (bump g n, l.map riD) ∧ l.length = i ∧ (∀ r ∈ l, 0 ≤ r.2 ∧ r.2 < m.bells.length) ∧ cnt g ≤ n ∧ n ≤ cnt g + 2 + i * 12, ⟨[], _, rfl, rfl, (fun _ z => nomatch z), by omega, by omega⟩, ?_, ?_⟩
      · rintro i x gx hx ⟨l, n, rfl, hl, hr, n0, n1⟩
        have hi : i < t := by
          have := (List.getElem?_eq_some_iff.mp hx).1
          simpa [rngD] using this
        walk_at "W"
        walk_at "RL"
        refine ⟨(), _, _, _, rfl, rfl, True.intro, by omega, ?_⟩
        rintro _ n2 n20 n21 ⟨fr, rfl, hfr⟩
        walk_at "RL"
        refine we_appendL np ?_
        walk_at "RL"
        rename_i u u0 u1
        refine ex_ints [0, 0, 0, 1, 2] ⟨u0, by simpa using u1, fun ix hix => ?_⟩
        have hix2 : 0 ≤ ix ∧ ix ≤ 2 := (by decide : ∀ d ∈ ([0, 0, 0, 1, 2] : List Int), 0 ≤ d ∧ d ≤ 2) ix hix
        refine ro_ix_any ⟨hix2.1, by simp only [List.length_cons, List.length_nil]; omega, fun d hd => ?_⟩
        obtain ⟨at', rfl⟩ : ∃ z, d = .int z := by
          simp only [List.mem_cons, List.not_mem_nil, or_false] at hd
          rcases hd with rfl | rfl | rfl <;> exact ⟨_, rfl⟩
        walk_at "RL"
        rename_i k k0 k1
        rw [hlen] at k1
        refine ⟨by rw [List.length_map]; omega, by walk_at "W", l ++ [(at', k)], n2 + 1 + 1, ?_, by rw [List.length_append, hl]; rfl, fun r hr2 => ?_, by omega, by omega⟩
        · rw [List.map_append]
          rfl
        · rcases List.mem_append.mp hr2 with q | q
          · exact hr r q
          · have : r = (at', k) := by simpa using q
            rw [this]
            exact ⟨k0, k1⟩
      · rintro gx ⟨l, n, rfl, hl, hr, n0, n1⟩
        have hlt : (rngD t).length = t := by simp [rngD]
        rw [hlt] at hl n1
        walk_at "W"
        walk_at "RL"
        refine ⟨_, fz_p, ?_⟩
        exact h _ _ (by omega) (by omega) ⟨l, rfl, hr, by omega⟩
    · walk_at "RL"
      refine ⟨_, fz_p, ?_⟩
      exact h _ _ (by omega) (by omega) ⟨[], rfl, (fun _ z => nomatch z), by simp⟩
abbrev s__law_terms : Stmt := top 46
theorem sc__law_terms : FnScope ["bag", "small", "k"] ["bag"] (defScope s__law_terms) := ⟨rfl, rfl, rfl, by decide +kernel, rfl, by decide +kernel, by decide +kernel⟩
theorem df__law_terms (B : Bl mg) (D__law_draw : Df P w K mg base "_law_draw" 1 ["bag", "many"] (spD S__law_draw)) (D__law_far : Df P w K mg base "_law_far" 2 ["bag"] (spD S__law_far)) (F : FuD K mg "_law_terms" ["bag"] s__law_terms) : Df P w K mg base "_law_terms" 3 ["bag"] (spD S__law_terms) := by
  refine F.ok (n := 2) sc__law_terms (fun G J es g Φ h => ?_) fun f cdv A outer s H E hr => ⟨_, (have hu := hu_of hr; (pss_cons (ps_set (i := 1) sc__law_terms.nd rfl (Or.inl rfl) (pe_lst (pa_cons (pe_op (k_add (K := K) rfl) pe_int (pe_df D__law_draw (hr.mono (by decide)) (by rfl) (pa_cons (pv 0) (pa_cons pe_int pa_nil)))) (pa_cons (pe_df D__law_draw (hr.mono (by decide)) (by rfl) (pa_cons (pv 0) (pa_cons pe_int pa_nil))) (pa_cons (pe_op (k_add (K := K) rfl) pe_int (pe_df D__law_draw (hr.mono (by decide)) (by rfl) (pa_cons (pv 0) (pa_cons pe_int pa_nil)))) (pa_cons (pe_df D__law_draw (hr.mono (by decide)) (by rfl) (pa_cons (pv 0) (pa_cons pe_int pa_nil))) (pa_cons (pe_df D__law_draw (hr.mono (by decide)) (by rfl) (pa_cons (pv 0) (pa_cons pe_int pa_nil))) pa_nil)))))))
     (pss_cons (ps_for PassesOwn.never rfl (pi_range1 (by rfl) B.range_ (pa_cons pe_int pa_nil)) (pg_name (i := 2) sc__law_terms.nd rfl (Or.inl rfl))
     (pss_one (ps_if (pt_cmpR (k_eq (K := K) rfl hr.units) (pe_df D__law_draw (hr.mono (by decide)) (by rfl) (pa_cons (pv 0) (pa_cons pe_int pa_nil))) pe_int (nomark _))
     (pss_one (ps_asg (pe_op (k_add (K := K) rfl) pe_int (pe_df D__law_far (hr.mono (by decide)) (by rfl) (pa_cons (pv 0) pa_nil))) (pg_sub (pv 1) (pv 2) set_list)))
     pss_nil)))
     (pss_one (ps_ret (pe_callTy (k_tup (K := K) rfl) (by rfl) B.tuple_ (by decide +kernel) (pa_cons (pv 1) pa_nil))))))), fun G J es g Φ h => ?_⟩
  · obtain ⟨a, b, gr, fold, cnt, bump, rfl, _⟩ := h
    rfl
  · obtain ⟨⟨⟩, b, gr, fold, cnt, bump, rfl, B, ok, hc, h⟩ := h
    dsimp only at hc h ok
    walk_at "S"
    refine ws_start B ?_

    refine ws_newL ?_
    walk_at "RB"
    rename_i a a0 a1 b2 b0 b1 c c0 c1 d d0 d1 e e0 e1
    intro p np
    refine ws_seq ?_
    refine ws_forS (vs := [2]) ?_
    refine wi_rng ?_
    walk_at "RL"
    refine ⟨fun i gx => ∃ (l : List Int) (n : Nat), gx = (bump g n, intsD l) ∧ l.length = 5 ∧ cnt g ≤ n ∧ n ≤ cnt g + 5 + i * 8, ⟨[1 + a, b2, 1 + c, d, e], _, rfl, rfl, by omega, by omega⟩, ?_, ?_⟩
    · rintro i x gx hx ⟨l, n, rfl, hl, n0, n1⟩
      obtain ⟨hi, rfl⟩ : i < 5 ∧ x = .int (i : Int) := by
        have h1 := (List.getElem?_eq_some_iff.mp hx).1
        have h2 : i < 5 := by simpa [rngD] using h1
        refine ⟨h2, ?_⟩
        simpa [rngD, h2] using hx.symm
      walk_at "W"
      walk_at "RL"
      refine ⟨fun e => ?_, fun e => ?_⟩
      · refine ws_setL np ?_
        walk_at "RL"
        refine ⟨(), _, _, _, rfl, rfl, True.intro, by omega, ?_⟩
        rintro _ n2 n20 n21 ⟨fr, rfl, hfr⟩
        walk_at "RL"
        refine ⟨by show i < (intsD l).length; rw [List.length_map]; omega, by walk_at "W", l.set i (1 + fr), n2, ?_, by rw [List.length_set]; exact hl, by omega, by omega⟩
        rw [intsD, intsD, List.map_set]
      · walk_at "RL"
        exact ⟨hl, by omega, by omega⟩
    · rintro gx ⟨l, n, rfl, hl, n0, n1⟩
      have hlt : (rngD 5).length = 5 := by simp [rngD]
      rw [hlt] at n1
      walk_at "W"
      walk_at "RL"
      refine rc_tup_c ?_
      walk_at "RL"
      refine ⟨_, fz_id, ?_⟩
      rcases l with _ | ⟨a, _ | ⟨b2, _ | ⟨c, _ | ⟨d, _ | ⟨e, _ | ⟨_, _⟩⟩⟩⟩⟩⟩ <;> simp at hl
      exact h _ _ (by omega) (by omega) ⟨⟨a, b2, c, d, e⟩, rfl⟩
abbrev s__law_begin : Stmt := top 50
theorem sc__law_begin : FnScope ["state", "found", "more"] ["state"] (defScope s__law_begin) := ⟨rfl, rfl, rfl, by decide +kernel, rfl, by decide +kernel, by decide +kernel⟩
theorem df__law_begin (B : Bl mg) (F : FuD K mg "_law_begin" ["state"] s__law_begin) : Df P w K mg base "_law_begin" 1 ["state"] spBegin := by
  refine F.okR (n := 0) sc__law_begin (fun vs H Q E h => ?_) fun f cdv A outer s H E hr => ⟨_, (have hu := hu_of hr; (pss_cons (ps_set (i := 1) sc__law_begin.nd rfl (Or.inl rfl) (pe_disp (pps_cons pe_str (pe_ix (k_ix (K := K) rfl) (pv 0) pe_int (fun _ _ => rfl)) (pps_cons pe_str (pe_callTy (k_lst (K := K) rfl) (by rfl) B.list_ (by decide +kernel) (pa_cons (pe_ix (k_ix (K := K) rfl) (pv 0) pe_int (fun _ _ => rfl)) pa_nil)) (pps_cons pe_str (pe_callTy (k_lst (K := K) rfl) (by rfl) B.list_ (by decide +kernel) (pa_cons (pe_ix (k_ix (K := K) rfl) (pv 0) pe_int (fun _ _ => rfl)) pa_nil)) (pps_cons pe_str (pe_ix (k_ix (K := K) rfl) (pv 0) pe_int (fun _ _ => rfl)) (pps_cons pe_str (pe_ix (k_ix (K := K) rfl) (pv 0) pe_int (fun _ _ => rfl)) pps_nil))))) (by rfl) (by rfl) (fun z => by cases z) (by decide)))
     (pss_cons (ps_set (i := 2) sc__law_begin.nd rfl (Or.inl rfl) (pe_disp (pps_cons pe_str pe_int (pps_cons pe_str pe_int (pps_cons pe_str pe_int (pps_cons pe_str (pe_lst pa_nil) (pps_cons pe_str (pe_lst pa_nil) (pps_cons pe_str (pe_lst pa_nil) (pps_cons pe_str pe_int pps_nil))))))) (by rfl) (by rfl) (fun z => by cases z) (by decide)))
     (pss_cons (ps_expr (k_bm (K := K) rfl PySem.F.plainAttrs_dict PySem.F.slot_dict_update PySem.F.type_dict_update mt_upd (pv 1) (pa_cons (pv 2) pa_nil)))
     (pss_one (ps_ret (pv 1))))))), fun vs Q h D dnx drt => ?_⟩
  · obtain ⟨G, J, F0, g, sv, st, o, rfl, _⟩ := h
    rfl
  · obtain ⟨G, J, F0, g, sv, st, o, rfl, dst, q⟩ := h
    cases dst with
    | tup ha da =>
    cases da with
    | cons d1 da =>
    cases d1
    cases da with
    | cons d2 da =>
    cases da with
    | cons d3 da =>
    cases da with
    | cons d4 da =>
    cases d4
    cases da with
    | cons d5 da =>
    cases da
    cases d2 with
    | tup hb db =>
    cases d3 with
    | tup hc dc =>
    have eb := db.of_ints
    have ec := dc.of_ints
    subst eb
    subst ec
    rename_i v5 _ _
    have e5 : v5 = optV st.kept := by
      cases hk : st.kept <;> rw [hk] at d5 <;> cases d5 <;> rfl
    subst e5
    intro p hp
    have o1 := o.put0 (o := .dK []) (o.fnone hp) (o.nomem hp)
    refine ⟨_, rfl, .inr ⟨_, _, _, _, rfl, rfl, .inl (rd_same o1.ex ha), atI_nat (j := 0) rfl, ?_⟩⟩
    refine ⟨_, rfl, .inr ⟨_, _, _, _, rfl, rfl, .inl (rd_same o1.ex ha), atI_nat (j := 1) rfl, ?_⟩⟩
    refine ⟨_, _, rfl, .inr (.inl (rd_same o1.ex hb)), fun p1 hp1 => ?_⟩
    have o2 := o1.put0 (o := .lst (st.spots.map V.int)) (o1.fnone hp1) (o1.nomem hp1)
    refine ⟨_, rfl, .inr ⟨_, _, _, _, rfl, rfl, .inl (rd_same o2.ex ha), atI_nat (j := 2) rfl, ?_⟩⟩
    refine ⟨_, _, rfl, .inr (.inl (rd_same o2.ex hc)), fun p2 hp2 => ?_⟩
    have o3 := o2.put0 (o := .lst (st.cells.map V.int)) (o2.fnone hp2) (o2.nomem hp2)
    refine ⟨_, rfl, .inr ⟨_, _, _, _, rfl, rfl, .inl (rd_same o3.ex ha), atI_nat (j := 3) rfl, ?_⟩⟩
    refine ⟨_, rfl, .inr ⟨_, _, _, _, rfl, rfl, .inl (rd_same o3.ex ha), atI_nat (j := 4) rfl, ?_⟩⟩
    obtain ⟨n1, hp1'⟩ := upd_none hp1
    obtain ⟨n2, hp2'⟩ := upd_none hp2
    obtain ⟨n3, hp2'⟩ := upd_none hp2'
    have fp := o.fnone hp
    have mp := o.nomem hp
    refine ⟨by rw [upd_ne n3.symm, upd_ne n1.symm, upd_same], begKs1 st p1 p2, rfl, Nat.le_of_ble_eq_true rfl, ?_⟩
    rw [beg_m1]
    have o4 := o3.put0 (o := .dK (begKs1 st p1 p2)) fp mp
    intro r hr4
    have o5 := o4.put0 (o := .dK []) (o4.fnone hr4) (o4.nomem hr4)
    refine ⟨Nat.zero_le _, fun p3 hp3 => ?_⟩
    have o6 := o5.put0 (o := .lst []) (o5.fnone hp3) (o5.nomem hp3)
    refine ⟨Nat.zero_le _, fun p4 hp4 => ?_⟩
    have o7 := o6.put0 (o := .lst []) (o6.fnone hp4) (o6.nomem hp4)
    refine ⟨Nat.zero_le _, fun p5 hp5 => ?_⟩
    have o8 := o7.put0 (o := .lst []) (o7.fnone hp5) (o7.nomem hp5)
    obtain ⟨a1, b1⟩ := upd_none hr4
    obtain ⟨a2, b1⟩ := upd_none b1
    obtain ⟨a3, b1⟩ := upd_none b1
    obtain ⟨_, b1⟩ := upd_none b1
    obtain ⟨c0, b3⟩ := upd_none hp3
    obtain ⟨c1, b3⟩ := upd_none b3
    obtain ⟨c2, b3⟩ := upd_none b3
    obtain ⟨c3, b3⟩ := upd_none b3
    obtain ⟨_, b3⟩ := upd_none b3
    obtain ⟨d0, b4⟩ := upd_none hp4
    obtain ⟨d1, b4⟩ := upd_none b4
    obtain ⟨d2, b4⟩ := upd_none b4
    obtain ⟨d3, b4⟩ := upd_none b4
    obtain ⟨d4, b4⟩ := upd_none b4
    obtain ⟨_, b4⟩ := upd_none b4
    obtain ⟨e0, b5⟩ := upd_none hp5
    obtain ⟨e1, b5⟩ := upd_none b5
    obtain ⟨e2, b5⟩ := upd_none b5
    obtain ⟨e3, b5⟩ := upd_none b5
    obtain ⟨e4, b5⟩ := upd_none b5
    obtain ⟨e5, b5⟩ := upd_none b5
    obtain ⟨_, b5⟩ := upd_none b5
    have fr := o4.fnone hr4
    have mr := o4.nomem hr4
    refine ⟨by rw [upd_ne e2.symm, upd_ne d1.symm, upd_ne c0.symm, upd_same], begKs2 p3 p4 p5, rfl, Nat.le_of_ble_eq_true rfl, ?_⟩
    rw [beg_m2]
    have o9 := o8.put0 (o := .dK (begKs2 p3 p4 p5)) fr mr
    have hP : ∀ (B : HO), upd (upd (upd (upd (upd (upd (upd (upd (upd H p (.dK [])) p1 (.lst (st.spots.map V.int))) p2 (.lst (st.cells.map V.int))) p (.dK (begKs1 st p1 p2))) r (.dK [])) p3 (.lst [])) p4 (.lst [])) p5 (.lst [])) r B p = some (.dK (begKs1 st p1 p2)) := fun B => by
      rw [upd_ne (a1.symm), upd_ne (e3.symm), upd_ne (d2.symm), upd_ne (c1.symm), upd_ne (a1.symm), upd_same]
    refine ⟨_, rfl, .inr (.inr (.inl ⟨rfl, .inl ⟨_, hP _⟩⟩)), _, rfl, p, r, begKs1 st p1 p2, begKs2 p3 p4 p5, rfl, rfl, a1.symm, hP _, upd_same, Nat.le_of_ble_eq_true rfl, ?_, ?_⟩
    · rw [beg_m3]
      exact Nat.le_of_ble_eq_true rfl
    rw [beg_m3]
    have o10 := o9.put0 (o := .dK (nowV (firstStand st) ⟨p1, p2, p3, p4, p5⟩)) fp mp
    refine ⟨_, rfl, drt _ _ (q p ⟨p1, p2, p3, p4, p5⟩ _ o10 ?_)⟩
    refine ⟨?_, ?_, upd_same, ?_, ?_, ⟨[], ?_, .nil⟩, ⟨[], ?_, .nil⟩, ?_⟩
    · simp only [Pts.all, List.nodup_cons, List.mem_cons, List.not_mem_nil, or_false, not_or]
      exact ⟨⟨n1.symm, n3.symm, c1.symm, d2.symm, e3.symm⟩, ⟨n2.symm, c3.symm, d4.symm, e5.symm⟩, ⟨c2.symm, d3.symm, e4.symm⟩, ⟨d0.symm, e1.symm⟩, e0.symm, not_false, List.nodup_nil⟩
    · intro x hx
      simp only [Pts.all, List.mem_cons, List.not_mem_nil, or_false] at hx
      rcases hx with rfl | rfl | rfl | rfl | rfl | rfl
      · exact ⟨fp, mp⟩
      · exact ⟨o1.fnone hp1, o1.nomem hp1⟩
      · exact ⟨o2.fnone hp2, o2.nomem hp2⟩
      · exact ⟨o5.fnone hp3, o5.nomem hp3⟩
      · exact ⟨o6.fnone hp4, o6.nomem hp4⟩
      · exact ⟨o7.fnone hp5, o7.nomem hp5⟩
    · rw [upd_ne ((Ne.symm (n1.symm))), upd_ne (a3.symm), upd_ne (e5.symm), upd_ne (d4.symm), upd_ne (c3.symm), upd_ne (a3.symm), upd_ne ((Ne.symm (n1.symm))), upd_ne (n2.symm), upd_same]
      rfl
    · rw [upd_ne ((Ne.symm (n3.symm))), upd_ne (a2.symm), upd_ne (e4.symm), upd_ne (d3.symm), upd_ne (c2.symm), upd_ne (a2.symm), upd_ne ((Ne.symm (n3.symm))), upd_same]
      rfl
    · rw [upd_ne ((Ne.symm (c1.symm))), upd_ne (c0), upd_ne (e1.symm), upd_ne (d0.symm), upd_same]
    · rw [upd_ne ((Ne.symm (d2.symm))), upd_ne (d1), upd_ne (e0.symm), upd_same]
    · rw [upd_ne ((Ne.symm (e3.symm))), upd_ne (e2), upd_same]
      rfl
abbrev s__law_waits : Stmt := top 49
theorem sc__law_waits : FnScope ["rings", "now", "beat", "found", "k", "at", "one", "rung"] ["rings", "now", "beat"] (defScope s__law_waits) := ⟨rfl, rfl, rfl, by decide +kernel, rfl, by decide +kernel, by decide +kernel⟩
theorem df__law_waits (B : Bl mg) (F : FuD K mg "_law_waits" ["rings", "now", "beat"] s__law_waits) : Df P w K mg base "_law_waits" 1 ["rings", "now", "beat"] (spD S__law_waits) := by
  refine F.ok (n := 0) sc__law_waits (fun G J es g Φ h => ?_) fun f cdv A outer s H E hr => ⟨_, (have hu := hu_of hr; (pss_cons (ps_set (i := 3) sc__law_waits.nd rfl (Or.inl rfl) (pe_lst pa_nil))
     (pss_cons (ps_for PassesOwn.never rfl (pi_range1 (by rfl) B.range_ (pa_cons pe_int pa_nil)) (pg_name (i := 4) sc__law_waits.nd rfl (Or.inr rfl))
     (pss_cons (ps_set (i := 7) sc__law_waits.nd rfl (Or.inl rfl) (pe_callB (k_len (K := K) rfl) (by rfl) B.len_ PySem.boot_len (pa_cons (pe_lc (own := [("at", 5), ("one", 6)]) (g := gTup K 2 (gCons (gName 5) (gCons (gName 6) gNil))) (by rfl) sc__law_waits.nd (k_list (K := K) rfl (pv 0)) (blkOk_by (own := [("at", 5), ("one", 6)]) (N := ["rings", "now", "beat", "found", "k", "at", "one", "rung"]) (sc := defScope s__law_waits) (by decide +kernel)) (fun _ _ _ _ _ => k_tg (K := K) (n := 2) rfl rfl (pgs_cons (pg_name (i := 5) sc__law_waits.nd rfl (Or.inl rfl)) (pgs_cons (pg_name (i := 6) sc__law_waits.nd rfl (Or.inl rfl)) pgs_nil))) (fun _ _ _ _ _ => pts_one (PW.pt (pw_and (pt_cmpR (k_eq (K := K) rfl hr.units) (pv 6) (pv 4) (nomark _)) (pw_and1 (pt_cmpR o_le (pv 5) (pv 2) (nomark _)))))) (fun _ _ _ _ _ => pe_int)) pa_nil)))
     (pss_one (ps_if (pt_cmpR o_gt (pv 7) (pe_callB (k_len (K := K) rfl) (by rfl) B.len_ PySem.boot_len (pa_cons (pe_lc (own := [("one", 6)]) (g := gName 6) (by rfl) sc__law_waits.nd (k_list (K := K) rfl (pe_dget hu (pv 1) pe_str (fun _ _ => rfl))) (blkOk_by (own := [("one", 6)]) (N := ["rings", "now", "beat", "found", "k", "at", "one", "rung"]) (sc := defScope s__law_waits) (by decide +kernel)) (fun _ _ _ _ _ => pg_name (i := 6) sc__law_waits.nd rfl (Or.inl rfl)) (fun _ _ _ _ _ => pts_one (pt_cmpR (k_eq (K := K) rfl hr.units) (pv 6) (pv 4) (nomark _))) (fun _ _ _ _ _ => pe_int)) pa_nil)) (nomark _))
     (pss_one (ps_expr (k_bm (K := K) rfl PySem.F.plainAttrs_list PySem.F.slot_list_append PySem.F.type_list_append mt_append (pv 3) (pa_cons (pv 4) pa_nil))))
     pss_nil))))
     (pss_one (ps_ret (pv 3)))))), fun G J es g Φ h => ?_⟩
  · obtain ⟨m, rs, sd, b, rfl, _⟩ := h
    rfl
  · obtain ⟨m, rs, sd, beat, rfl, hr, ht, h⟩ := h
    walk_at "S"
    refine ws_newL ?_
    refine wa_nil ⟨Nat.le_of_ble_eq_true rfl, fun p np => ?_⟩
    refine ws_seq ?_
    refine ws_forS (vs := [4, 7]) ?_
    refine wi_rng ?_
    walk_at "RN"
    refine ⟨fun i g' => g' = (g, intsD (([0, 1, 2, 3].take i).filter fun k => decide (sd.took.count k < (rungBy rs beat).count k))), rfl, ?_, ?_⟩
    · rintro i x g' hx rfl
      obtain ⟨k, rfl, hk⟩ : ∃ k : Int, x = .int k ∧ [0, 1, 2, 3][i]? = some k := by
        rcases i with _ | _ | _ | _ | i <;> simp [rngD, List.range_succ] at hx <;> exact ⟨_, hx.symm, rfl⟩
      walk_at "W"
      walk_at "RN"
      refine we_lcM rs riD (fun r => decide (r.2 = k) && decide (r.1 ≤ beat)) (fun _ => .int 1) (tg_two (by decide)) ?_
      refine wi_list ?_
      walk_at "RN"
      refine ⟨by have := hr.len; omega, fun r hr2 => ?_, ?_⟩
      · refine ⟨_, rfl, ?_⟩
        walk_at "W"
        refine wt_andX (decide (r.2 = k)) (decide (r.1 ≤ beat)) ?_ (fun z => ?_) ⟨fun e => ?_, fun e => ⟨e, rfl⟩⟩
        · walk_at "RN"
          rfl
        · walk_at "RN"
          rfl
        · walk_at "RN"
          exact ⟨e, rfl, rfl⟩
      · walk_at "RN"
        refine we_lcM sd.took Dv.int (fun r => decide (r = k)) (fun _ => .int 1) tg_name ?_
        refine wi_list ?_
        walk_at "RN"
        refine ⟨by omega, fun r hr2 => ?_, ?_⟩
        · refine ⟨_, rfl, ?_⟩
          walk_at "W"
          walk_at "RN"
          refine ⟨fun e => ?_, fun e => ⟨e, rfl⟩⟩
          walk_at "RN"
          exact ⟨e, rfl, rfl⟩
        · walk_at "RN"
          rw [cnt_took, cnt_rung]
          have e0 : decide (((sd.took.count k : Nat) : Int) < ((rungBy rs beat).count k : Nat)) = decide (sd.took.count k < (rungBy rs beat).count k) := by
            rw [decide_eq_decide]
            omega
          rw [e0]
          refine ⟨fun e => ?_, fun e => ?_⟩
          · walk_at "RN"
            refine we_appendL np ?_
            walk_at "RN"
            refine ⟨?_, ?_, ?_⟩
            · refine Nat.le_trans (by rw [List.length_map]; exact Nat.le_trans (List.length_filter_le _ _) (by rw [List.length_take]; exact Nat.min_le_right _ _)) (Nat.le_of_ble_eq_true rfl)
            · walk_at "W"
            · rw [filter_take_succ hk, if_pos e, ints_app]
          · refine ws_next ?_
            refine ⟨?_, ?_⟩
            · walk_at "W"
            · rw [filter_take_succ hk, if_neg (by rw [e]; exact Bool.false_ne_true), List.append_nil]
    · rintro g' rfl
      walk_at "W"
      walk_at "RN"
      refine ⟨_, fz_p, ?_⟩
      exact h
abbrev s__law_due : Stmt := top 47
theorem sc__law_due : FnScope ["row", "now", "spots", "one", "other", "worths"] ["row", "now"] (defScope s__law_due) := ⟨rfl, rfl, rfl, by decide +kernel, rfl, by decide +kernel, by decide +kernel⟩
theorem df__law_due (B : Bl mg) (F : FuD K mg "_law_due" ["row", "now"] s__law_due) : Df P w K mg base "_law_due" 1 ["row", "now"] (spD S__law_due) := by
  refine F.ok (n := 0) sc__law_due (fun G J es g Φ h => ?_) fun f cdv A outer s H E hr => ⟨_, (have hu := hu_of hr; (pss_cons (ps_set (i := 2) sc__law_due.nd rfl (Or.inl rfl) (pe_dget hu (pv 1) pe_str (fun _ _ => rfl)))
     (pss_cons (ps_if (pt_cmpR (k_in (K := K) rfl) (pe_ix (k_ix (K := K) rfl) (pv 0) pe_int (fun _ _ => rfl)) (pe_tup (pa_cons pe_str (pa_cons pe_str (pa_cons pe_str (pa_cons pe_str pa_nil))))) (by rfl))
     (pss_one (ps_ret pe_non))
     pss_nil)
     (pss_cons (ps_if (pt_cmpR (k_eq (K := K) rfl hr.units) (pe_ix (k_ix (K := K) rfl) (pv 0) pe_int (fun _ _ => rfl)) pe_str (nomark _))
     (pss_one (ps_ret (pe_tup (pa_cons pe_str (pa_cons (pe_ix (k_ix (K := K) rfl) (pv 0) pe_int (fun _ _ => rfl)) (pa_cons (pe_ix (k_ix (K := K) rfl) (pv 0) pe_int (fun _ _ => rfl)) pa_nil))))))
     pss_nil)
     (pss_cons (ps_set (i := 3) sc__law_due.nd rfl (Or.inl rfl) (pe_ix (k_ix (K := K) rfl) (pv 2) (pe_ix (k_ix (K := K) rfl) (pv 0) pe_int (fun _ _ => rfl)) (fun _ _ => rfl)))
     (pss_cons (ps_if (pt_cmpR (k_eq (K := K) rfl hr.units) (pe_ix (k_ix (K := K) rfl) (pv 0) pe_int (fun _ _ => rfl)) pe_str (nomark _))
     (pss_one (ps_ret (pe_tup (pa_cons pe_str (pa_cons (pe_op o_mod (pe_op (k_add (K := K) rfl) (pv 3) (pe_ix (k_ix (K := K) rfl) (pv 0) pe_int (fun _ _ => rfl))) pe_int) (pa_cons (pe_ix (k_ix (K := K) rfl) (pv 2) (pe_ix (k_ix (K := K) rfl) (pv 0) pe_int (fun _ _ => rfl)) (fun _ _ => rfl)) pa_nil))))))
     pss_nil)
     (pss_cons (ps_if (pt_cmpR (k_eq (K := K) rfl hr.units) (pe_ix (k_ix (K := K) rfl) (pv 0) pe_int (fun _ _ => rfl)) pe_str (nomark _))
     (pss_one (ps_ret (pe_tup (pa_cons pe_str (pa_cons (pe_ix (k_ix (K := K) rfl) (pv 0) pe_int (fun _ _ => rfl)) (pa_cons (pe_ix (k_ix (K := K) rfl) (pe_dget hu (pv 1) pe_str (fun _ _ => rfl)) (pe_op o_mod (pe_op (k_add (K := K) rfl) (pv 3) (pe_ix (k_ix (K := K) rfl) (pv 0) pe_int (fun _ _ => rfl))) pe_int) (fun _ _ => rfl)) pa_nil))))))
     pss_nil)
     (pss_cons (ps_set (i := 4) sc__law_due.nd rfl (Or.inl rfl) (pe_ix (k_ix (K := K) rfl) (pv 2) (pe_ix (k_ix (K := K) rfl) (pv 0) pe_int (fun _ _ => rfl)) (fun _ _ => rfl)))
     (pss_cons (ps_set (i := 5) sc__law_due.nd rfl (Or.inl rfl) (pe_disp (pps_cons pe_str (pe_op (k_add (K := K) rfl) (pv 3) (pv 4)) (pps_cons pe_str (pe_op o_mul (pv 3) (pv 4)) (pps_cons pe_str (pe_callTy c_int (by rfl) B.int_ (by decide +kernel) (pa_cons (pe_cmpR o_lt (pv 3) (pv 4) (nomark _)) pa_nil)) pps_nil))) (by rfl) (by rfl) (fun z => by cases z) (by decide)))
     (pss_one (ps_ret (pe_tup (pa_cons pe_str (pa_cons (pe_ix (k_ix (K := K) rfl) (pv 0) pe_int (fun _ _ => rfl)) (pa_cons (pe_op o_mod (pe_dget hu (pv 5) (pe_ix (k_ix (K := K) rfl) (pv 0) pe_int (fun _ _ => rfl)) (fun _ _ => rfl)) pe_int) pa_nil))))))))))))))), fun G J es g Φ h => ?_⟩
  · obtain ⟨r, sd, rfl, _⟩ := h
    rfl
  · obtain ⟨r, sd, rfl, ho, hs, hc, hb, h⟩ := h
    walk_at "S"
    cases r
    all_goals simp only [Row.ok] at ho
    all_goals walk_at "RN"
    all_goals refine ro_in_t rfl rfl ?_
    all_goals walk_at "RN"
    case put d n => exact h
    case go a p => exact h
    case shut => exact h
    case opn => exact h
    case home => exact h
    case lay b a n =>
      have e := cellAt_int sd.st.spots a n
      rw [← e]
      walk_at "RN"
      exact h
    case take d a n =>
      have e := cellAt_int sd.st.spots a n
      rw [← e]
      have := cellAt_lt sd.st.spots a n
      walk_at "RN"
      exact h
    case sum d a b =>
      refine we_disp ?_
      refine wp_cons ?_
      walk_at "RN"
      refine wp_cons ?_
      walk_at "RN"
      refine ro_mul_l (by have := sp_bd (a := a) hb (by omega); omega) ?_
      refine wp_cons ?_
      walk_at "RN"
      refine wp_nil ?_
      refine ⟨_, rfl, Nat.le_of_ble_eq_true rfl, dsk _ _ _, ?_⟩
      walk_at "RN"
      refine ⟨_, _, _, rfl, rfl, lk1 _ _ _, ?_⟩
      walk_at "RN"
      exact h
    case mul d a b =>
      refine we_disp ?_
      refine wp_cons ?_
      walk_at "RN"
      refine wp_cons ?_
      walk_at "RN"
      refine ro_mul_l (by have := sp_bd (a := a) hb (by omega); omega) ?_
      refine wp_cons ?_
      walk_at "RN"
      refine wp_nil ?_
      refine ⟨_, rfl, Nat.le_of_ble_eq_true rfl, dsk _ _ _, ?_⟩
      walk_at "RN"
      refine ⟨_, _, _, rfl, rfl, lk2 _ _ _, ?_⟩
      walk_at "RN"
      exact h
    case less d a b =>
      refine we_disp ?_
      refine wp_cons ?_
      walk_at "RN"
      refine wp_cons ?_
      walk_at "RN"
      refine ro_mul_l (by have := sp_bd (a := a) hb (by omega); omega) ?_
      refine wp_cons ?_
      walk_at "RN"
      refine wp_nil ?_
      refine ⟨_, rfl, Nat.le_of_ble_eq_true rfl, dsk _ _ _, ?_⟩
      walk_at "RN"
      refine ⟨_, _, _, rfl, rfl, lk3 _ _ _, ?_⟩
      walk_at "RN"
      rw [mod_id (by split <;> omega)]
      simpa [wroteBy] using h
abbrev s__law_end_cause : Stmt := top 51
theorem sc__law_end_cause : FnScope ["mill", "rings", "terms", "now", "event", "rows", "row", "touched", "one", "due", "wrote"] ["mill", "rings", "terms", "now", "event"] (defScope s__law_end_cause) := ⟨rfl, rfl, rfl, by decide +kernel, rfl, by decide +kernel, by decide +kernel⟩
theorem df__law_end_cause (B : Bl mg) (D__law_waits : Df P w K mg base "_law_waits" 1 ["rings", "now", "beat"] (spD S__law_waits)) (D__law_due : Df P w K mg base "_law_due" 1 ["row", "now"] (spD S__law_due)) (F : FuD K mg "_law_end_cause" ["mill", "rings", "terms", "now", "event"] s__law_end_cause) : Df P w K mg base "_law_end_cause" 2 ["mill", "rings", "terms", "now", "event"] (spD S__law_end_cause) := by
  refine F.ok (n := 1) sc__law_end_cause (fun G J es g Φ h => ?_) fun f cdv A outer s H E hr => ⟨_, (have hu := hu_of hr; (pss_cons (ps_set (i := 5) sc__law_end_cause.nd rfl (Or.inl rfl) (pe_ix (k_ix (K := K) rfl) (pv 0) pe_int (fun _ _ => rfl)))
     (pss_cons (ps_if (pt_cmpR (k_eq (K := K) rfl hr.units) (pe_dget hu (pv 3) pe_str (fun _ _ => rfl)) (pe_callB (k_len (K := K) rfl) (by rfl) B.len_ PySem.boot_len (pa_cons (pv 5) pa_nil)) (nomark _))
     (pss_one (ps_ret pe_str))
     pss_nil)
     (pss_cons (ps_if (pt_cmpR (k_ne (K := K) rfl hr.units) (pe_ix (k_ix (K := K) rfl) (pv 4) pe_int (fun _ _ => rfl)) (pe_dget hu (pv 3) pe_str (fun _ _ => rfl)) (nomark _))
     (pss_one (ps_ret pe_str))
     pss_nil)
     (pss_cons (ps_if (PW.pt (pw_and (pt_cmpR (k_eq (K := K) rfl hr.units) (pe_ix (k_ix (K := K) rfl) (pv 4) pe_int (fun _ _ => rfl)) (pe_dget hu (pv 3) pe_str (fun _ _ => rfl)) (nomark _)) (pw_and1 (pt_cmpR o_ge (pe_dget hu (pv 3) pe_str (fun _ _ => rfl)) (pe_ix (k_ix (K := K) rfl) (pv 2) pe_int (fun _ _ => rfl)) (nomark _)))))
     (pss_one (ps_ret pe_str))
     pss_nil)
     (pss_cons (ps_if (PW.pt (pw_and (pt_not (pt_val (pe_dget hu (pv 3) pe_str (fun _ _ => rfl)))) (pw_and (pt_cmpR o_ge (pe_dget hu (pv 3) pe_str (fun _ _ => rfl)) (pe_ix (k_ix (K := K) rfl) (pv 2) pe_int (fun _ _ => rfl)) (nomark _)) (pw_and1 (pt_cmpR (k_ne (K := K) rfl hr.units) (pe_df D__law_waits (hr.mono (by decide)) (by rfl) (pa_cons (pv 1) (pa_cons (pv 3) (pa_cons (pe_ix (k_ix (K := K) rfl) (pv 4) pe_int (fun _ _ => rfl)) pa_nil)))) (pe_lst pa_nil) (nomark _))))))
     (pss_one (ps_ret pe_str))
     pss_nil)
     (pss_cons (ps_set (i := 6) sc__law_end_cause.nd rfl (Or.inl rfl) (pe_ix (k_ix (K := K) rfl) (pv 5) (pe_dget hu (pv 3) pe_str (fun _ _ => rfl)) (fun _ _ => rfl)))
     (pss_cons (ps_set (i := 7) sc__law_end_cause.nd rfl (Or.inr rfl) (pe_callTy (k_lst (K := K) rfl) (by rfl) B.list_ (by decide +kernel) (pa_cons (pe_slice (k_sl (K := K) rfl) (pv 6) (po_some pe_int) (po_some (pe_dget2 hu (pe_disp (pps_cons pe_str pe_int (pps_cons pe_str pe_int (pps_cons pe_str pe_int (pps_cons pe_str pe_int pps_nil)))) (by rfl) (by rfl) (fun z => by cases z) (by decide)) (pe_ix (k_ix (K := K) rfl) (pv 6) pe_int (fun _ _ => rfl)) pe_int ⟨by rfl, by rfl, by rfl, by rfl⟩))) pa_nil)))
     (pss_cons (ps_if (pt_cmpR (k_ne (K := K) rfl hr.units) (pe_lc (own := [("one", 8)]) (g := gName 8) (by rfl) sc__law_end_cause.nd (k_list (K := K) rfl (pe_dget hu (pv 3) pe_str (fun _ _ => rfl))) (blkOk_by (own := [("one", 8)]) (N := ["mill", "rings", "terms", "now", "event", "rows", "row", "touched", "one", "due", "wrote"]) (sc := defScope s__law_end_cause) (by decide +kernel)) (fun _ _ _ _ _ => pg_name (i := 8) sc__law_end_cause.nd rfl (Or.inl rfl)) (fun _ _ _ _ _ => pts_one (pt_cmpR (k_in (K := K) rfl) (pe_ix (k_ix (K := K) rfl) (pv 8) pe_int (fun _ _ => rfl)) (pv 7) (by rfl))) (fun _ _ _ _ _ => (pv 8))) (pe_lst pa_nil) (nomark _))
     (pss_one (ps_ret pe_str))
     pss_nil)
     (pss_cons (ps_set (i := 9) sc__law_end_cause.nd rfl (Or.inl rfl) (pe_df D__law_due (hr.mono (by decide)) (by rfl) (pa_cons (pv 6) (pa_cons (pv 3) pa_nil))))
     (pss_cons (ps_set (i := 10) sc__law_end_cause.nd rfl (Or.inl rfl) (pe_ix (k_ix (K := K) rfl) (pv 4) pe_int (fun _ _ => rfl)))
     (pss_cons (ps_if (PW.pt (pw_or (pt_cmpR (k_ne (K := K) rfl hr.units) (pe_cmpR o_is (pv 9) pe_non (nomark _)) (pe_cmpR o_is (pv 10) pe_non (nomark _)) (nomark _)) (pw_or1 (PW.pt (pw_and (pt_cmpR o_isnt (pv 9) pe_non (nomark _)) (pw_and1 (pt_cmpR (k_ne (K := K) rfl hr.units) (pe_slice (k_sl (K := K) rfl) (pv 9) po_none (po_some pe_int)) (pe_slice (k_sl (K := K) rfl) (pv 10) po_none (po_some pe_int)) (nomark _))))))))
     (pss_one (ps_ret pe_str))
     pss_nil)
     (pss_cons (ps_if (pt_cmpR o_is (pv 9) pe_non (nomark _))
     (pss_one (ps_ret pe_non))
     pss_nil)
     (pss_cons (ps_if (PW.pt (pw_and (pt_cmpR o_is (pe_ix (k_ix (K := K) rfl) (pv 10) pe_int (fun _ _ => rfl)) pe_non (nomark _)) (pw_and1 (pt_cmpR (k_nin (K := K) rfl) (pe_ix (k_ix (K := K) rfl) (pv 6) pe_int (fun _ _ => rfl)) (pe_tup (pa_cons pe_str (pa_cons pe_str pa_nil))) (by rfl)))))
     (pss_one (ps_ret pe_str))
     pss_nil)
     (pss_cons (ps_if (PW.pt (pw_and (pt_cmpR o_isnt (pe_ix (k_ix (K := K) rfl) (pv 10) pe_int (fun _ _ => rfl)) pe_non (nomark _)) (pw_and1 (pt_cmpR (k_ne (K := K) rfl hr.units) (pe_ix (k_ix (K := K) rfl) (pv 10) pe_int (fun _ _ => rfl)) (pe_ix (k_ix (K := K) rfl) (pv 9) pe_int (fun _ _ => rfl)) (nomark _)))))
     (pss_one (ps_ret pe_str))
     pss_nil)
     (pss_cons (ps_if (PW.pt (pw_or (PW.pt (pw_and (pt_cmpR o_is (pe_ix (k_ix (K := K) rfl) (pv 10) pe_int (fun _ _ => rfl)) pe_non (nomark _)) (pw_and1 (pt_cmpR o_ge (pe_callB (k_len (K := K) rfl) (by rfl) B.len_ PySem.boot_len (pa_cons (pe_dget hu (pv 3) pe_str (fun _ _ => rfl)) pa_nil)) (pe_ix (k_ix (K := K) rfl) (pv 2) pe_int (fun _ _ => rfl)) (nomark _))))) (pw_or1 (PW.pt (pw_and (pt_cmpR (k_eq (K := K) rfl hr.units) (pe_ix (k_ix (K := K) rfl) (pv 9) pe_int (fun _ _ => rfl)) pe_str (nomark _)) (pw_and1 (pt_cmpR o_ge (pe_callB (k_len (K := K) rfl) (by rfl) B.len_ PySem.boot_len (pa_cons (pe_dget hu (pv 3) pe_str (fun _ _ => rfl)) pa_nil)) (pe_ix (k_ix (K := K) rfl) (pv 2) pe_int (fun _ _ => rfl)) (nomark _))))))))
     (pss_one (ps_ret pe_str))
     pss_nil)
     (pss_one (ps_ret pe_non)))))))))))))))))), fun G J es g Φ h => ?_⟩
  · obtain ⟨m, rs, tm, sd, b, p, w, rfl, _⟩ := h
    rfl
  · obtain ⟨m, rs, tm, sd, beat, p, w, rfl, hm, hr, hs, h⟩ := h
    walk_at "S"
    walk_at "RN"
    rw [List.length_map]
    refine ⟨fun e => ?_, fun e => ?_⟩
    · have e' := of_decide_eq_true e
      walk_at "RN"
      rw [end_rest e'] at h
      exact h
    have e1 := of_decide_eq_false e
    have pl : 0 ≤ sd.st.place ∧ sd.st.place < m.rows.length := ⟨hs.st.p0, by have := hs.st.p1; omega⟩
    walk_at "RN"
    refine ⟨fun e => ?_, fun e => ?_⟩
    · have e2 : p ≠ sd.st.place := by simpa using e
      walk_at "RN"
      rw [end_place e1 e2] at h
      exact h
    have e2 : ¬ p ≠ sd.st.place := by simpa using e
    walk_at "XN"
    refine ws_if ?_
    refine wt_andX (decide (beat = sd.beat)) (decide (tm.width ≤ sd.crowd)) ?_ (fun z => ?_) ?_
    · walk_at "RN"
      rfl
    · walk_at "RN"
      rfl
    refine ⟨fun e => ?_, fun e => ?_⟩
    · walk_at "RN"
      rw [end_crowd e1 e2 e] at h
      exact h
    have e3 := e
    walk_at "XN"
    refine ws_if ?_
    refine wt_andX (!sd.st.shut) (decide (tm.patience ≤ sd.pressed) && !(waits rs sd.took beat).isEmpty) ?_ (fun z => ?_) ?_
    · walk_at "RN"
      rfl
    · refine wt_andX (decide (tm.patience ≤ sd.pressed)) (!(waits rs sd.took beat).isEmpty) ?_ (fun z => ?_) ⟨rfl, rfl⟩
      · walk_at "RN"
        rfl
      · walk_at "RN"
        refine ⟨m, rs, sd, _, rfl, hr, hs.n3, ?_⟩
        walk_at "RN"
        refine ro_ne_nilL 0 (by decide) (ok_ints _ _) ?_
        walk_at "RN"
        refine ⟨?_, rfl⟩
        cases waits rs sd.took beat <;> rfl
    refine ⟨fun e => ?_, fun e => ?_⟩
    · walk_at "RN"
      rw [end_bell e1 e2 e3 (by simp [pressed] at e ⊢; simp [e])] at h
      exact h
    have e4 : (decide (tm.patience ≤ sd.pressed) && pressed rs sd beat) = false := by
      rw [← e]
      simp only [pressed]
      cases sd.st.shut <;> simp [Bool.and_comm, Bool.and_left_comm]
    walk_at "XN"
    refine ⟨.tup (.str (rname (m.row sd.st.place)) :: rargs (m.row sd.st.place)), by rw [at_rows pl.1 pl.2, rowD_eq], ?_⟩
    walk_at "XN"
    refine we_dget2 ?_
    refine we_disp ?_
    refine wp_cons ?_
    walk_at "RN"
    refine wp_cons ?_
    walk_at "RN"
    refine wp_cons ?_
    walk_at "RN"
    refine wp_cons ?_
    walk_at "RN"
    refine wp_nil ?_
    refine ⟨cutKs, rfl, Nat.le_of_ble_eq_true rfl, ctk, ?_⟩
    walk_at "XN"
    refine ⟨_, cut_row _, ?_⟩
    refine rs_t ?_
    rw [cut_touch]
    walk_at "XN"
    refine rc_lst_t ?_
    walk_at "XN"
    refine ws_if ?_
    walk_at "RN"
    refine we_lcM sd.owed owD (fun o => touches (m.row sd.st.place) o.spot) owD tg_name ?_
    refine wi_list ?_
    walk_at "RN"
    refine ⟨by have := hs.n1; omega, fun o ho => ?_, ?_⟩
    · refine ⟨_, rfl, ?_⟩
      walk_at "W"
      walk_at "RN"
      refine ro_in_l rfl (flat_touch _) ?_
      rw [inD_touchL]
      walk_at "RN"
      refine ⟨fun e => ?_, fun e => ⟨e, rfl⟩⟩
      walk_at "RN"
      exact ⟨e, rfl, rfl⟩
    walk_at "RN"
    refine ro_ne_nilL 1 (by decide) (ok_ow 0 _) ?_
    rw [fil_empty, Bool.not_not]
    walk_at "RN"
    refine ⟨fun e => ?_, fun e => ?_⟩
    · walk_at "RN"
      rw [end_ahead e1 e2 e3 e4 e] at h
      exact h
    have e5 : (sd.owed.find? fun o => touches (m.row sd.st.place) o.spot) = none := by
      rw [List.find?_eq_none]
      intro o ho z
      rw [any_of ho z] at e
      cases e
    rw [end_wrote e1 e2 e3 e4 e5] at h
    walk_at "RN"
    refine ⟨m.row sd.st.place, sd, by rw [rowD_eq], row_ok hm pl.1 pl.2, hs.st.sp, hs.st.ce, hs.st.sw, ?_⟩
    have hcs : ∀ i y, wroteBy sd.st.spots sd.st.cells (m.row sd.st.place) = .cell i y → slow (m.row sd.st.place) = false := fun i y z => cell_not_slow z
    generalize wroteBy sd.st.spots sd.st.cells (m.row sd.st.place) = x at h hcs ⊢
    cases x
    case no =>
      cases w <;> walk_at "RN"
      all_goals exact h
    case spot d x =>
      cases w
      case no =>
        walk_at "RN"
        exact h
      case cell e v =>
        walk_at "RN"
        refine ro_ne_si (by decide +kernel) (by decide +kernel) ?_
        walk_at "RN"
        exact h
      case spot e v =>
        walk_at "RN"
        refine ro_ne_si (by decide +kernel) (by decide +kernel) ?_
        walk_at "RN"
        refine ⟨fun z => ?_, fun z => ?_⟩
        · have z' : e ≠ d := fun q => by simp [q] at z
          walk_at "RN"
          simpa [wroteCause, z'] using h
        · have z' : e = d := by
            have z2 : ((d : Nat) : Int) = e := by simpa using z
            exact z2.symm
          simp only [wroteCause, z', ne_eq, not_true_eq_false, if_false] at h
          · cases v
            case none =>
              walk_at "RN"
              refine ro_ni_t rfl rfl ?_
              rw [slow_in]
              cases hsl : slow (m.row sd.st.place)
              · walk_at "RN"
                simpa [hsl] using h
              · simp only [hsl, Bool.not_true, Bool.false_eq_true, if_false] at h
                walk_at "RN"
                rw [List.length_map]
                refine ⟨fun q => ?_, fun q => ?_⟩
                · rw [if_pos (by simpa using q)] at h
                  walk_at "RN"
                  exact h
                · rw [if_neg (by simpa using q)] at h
                  walk_at "RN"
                  exact h
            case some v =>
              walk_at "RN"
              refine ⟨fun q => ?_, fun q => ?_⟩
              · have q' : ¬ v = x := by simpa using q
                simp only [q', not_false_eq_true, if_true] at h
                walk_at "RN"
                exact h
              · have q' : v = x := by simpa using q
                simp only [q', not_true_eq_false, if_false] at h
                walk_at "RN"
                exact h
    case cell d x =>
      cases w
      case no =>
        walk_at "RN"
        exact h
      case spot e v =>
        walk_at "RN"
        refine ro_ne_si (by decide +kernel) (by decide +kernel) ?_
        walk_at "RN"
        exact h
      case cell e v =>
        walk_at "RN"
        refine ro_ne_si (by decide +kernel) (by decide +kernel) ?_
        walk_at "RN"
        refine ⟨fun z => ?_, fun z => ?_⟩
        · have z' : e ≠ d := fun q => by simp [q] at z
          walk_at "RN"
          simpa [wroteCause, z'] using h
        · have z' : e = d := by
            have z2 : ((d : Nat) : Int) = e := by simpa using z
            exact z2.symm
          simp only [wroteCause, z', ne_eq, not_true_eq_false, if_false] at h
          · cases v
            case none =>
              walk_at "RN"
              refine ro_ni_t rfl rfl ?_
              rw [slow_in]
              cases hsl : slow (m.row sd.st.place)
              · walk_at "RN"
                simpa [hsl] using h
              · simp only [hsl, Bool.not_true, Bool.false_eq_true, if_false] at h
                walk_at "RN"
                exact absurd (hcs _ _ rfl) (by rw [hsl]; exact fun z => nomatch z)
            case some v =>
              walk_at "RN"
              refine ⟨fun q => ?_, fun q => ?_⟩
              · have q' : ¬ v = x := by simpa using q
                simp only [q', not_false_eq_true, if_true] at h
                walk_at "RN"
                exact h
              · have q' : v = x := by simpa using q
                simp only [q', not_true_eq_false, if_false] at h
                walk_at "RN"
                rw [List.length_map]
                refine ⟨fun q => ?_, fun q => ?_⟩
                · rw [if_pos (by simpa using q)] at h
                  walk_at "RN"
                  exact h
                · rw [if_neg (by simpa using q)] at h
                  walk_at "RN"
                  exact h
abbrev s__law_cause : Stmt := top 52
theorem sc__law_cause : FnScope ["mill", "rings", "terms", "now", "event", "one", "due", "k"] ["mill", "rings", "terms", "now", "event"] (defScope s__law_cause) := ⟨rfl, rfl, rfl, by decide +kernel, rfl, by decide +kernel, by decide +kernel⟩
theorem df__law_cause (B : Bl mg) (D__law_end_cause : Df P w K mg base "_law_end_cause" 2 ["mill", "rings", "terms", "now", "event"] (spD S__law_end_cause)) (D__law_waits : Df P w K mg base "_law_waits" 1 ["rings", "now", "beat"] (spD S__law_waits)) (F : FuD K mg "_law_cause" ["mill", "rings", "terms", "now", "event"] s__law_cause) : Df P w K mg base "_law_cause" 3 ["mill", "rings", "terms", "now", "event"] (spD S__law_cause) := by
  refine F.ok (n := 2) sc__law_cause (fun G J es g Φ h => ?_) fun f cdv A outer s H E hr => ⟨_, (have hu := hu_of hr; (pss_cons (ps_if (pt_cmpR o_lt (pe_ix (k_ix (K := K) rfl) (pv 4) pe_int (fun _ _ => rfl)) (pe_dget hu (pv 3) pe_str (fun _ _ => rfl)) (nomark _))
     (pss_one (ps_ret pe_str))
     pss_nil)
     (pss_cons (ps_if (pt_cmpR (k_ne (K := K) rfl hr.units) (pe_lc (own := [("one", 5)]) (g := gName 5) (by rfl) sc__law_cause.nd (k_list (K := K) rfl (pe_dget hu (pv 3) pe_str (fun _ _ => rfl))) (blkOk_by (own := [("one", 5)]) (N := ["mill", "rings", "terms", "now", "event", "one", "due", "k"]) (sc := defScope s__law_cause) (by decide +kernel)) (fun _ _ _ _ _ => pg_name (i := 5) sc__law_cause.nd rfl (Or.inl rfl)) (fun _ _ _ _ _ => pts_one (pt_cmpR o_lt (pe_op (k_add (K := K) rfl) (pe_ix (k_ix (K := K) rfl) (pv 5) pe_int (fun _ _ => rfl)) (pe_ix (k_ix (K := K) rfl) (pv 2) pe_int (fun _ _ => rfl))) (pe_ix (k_ix (K := K) rfl) (pv 4) pe_int (fun _ _ => rfl)) (nomark _))) (fun _ _ _ _ _ => (pv 5))) (pe_lst pa_nil) (nomark _))
     (pss_one (ps_ret pe_str))
     pss_nil)
     (pss_cons (ps_if (pt_cmpR (k_eq (K := K) rfl hr.units) (pe_ix (k_ix (K := K) rfl) (pv 4) pe_int (fun _ _ => rfl)) pe_str (nomark _))
     (pss_one (ps_ret (pe_df D__law_end_cause (hr.mono (by decide)) (by rfl) (pa_cons (pv 0) (pa_cons (pv 1) (pa_cons (pv 2) (pa_cons (pv 3) (pa_cons (pv 4) pa_nil))))))))
     pss_nil)
     (pss_cons (ps_set (i := 6) sc__law_cause.nd rfl (Or.inl rfl) (pe_lst pa_nil))
     (pss_cons (ps_if (pt_cmpR (k_eq (K := K) rfl hr.units) (pe_ix (k_ix (K := K) rfl) (pv 4) pe_int (fun _ _ => rfl)) pe_str (nomark _))
     (pss_one (ps_setLc (i := 6) (own := [("one", 5)]) (g := gName 5) (by rfl) sc__law_cause.nd rfl rfl (sw_true rfl rfl rfl (by decide +kernel)) (k_list (K := K) rfl (pe_dget hu (pv 3) pe_str (fun _ _ => rfl))) (blkOk_by (own := [("one", 5)]) (N := ["mill", "rings", "terms", "now", "event", "one", "due", "k"]) (sc := defScope s__law_cause) (by decide +kernel)) (fun _ _ _ _ _ => pg_name (i := 5) sc__law_cause.nd rfl (Or.inl rfl)) (fun _ _ _ _ _ => pts_one (pt_cmpR (k_eq (K := K) rfl hr.units) (pe_ix (k_ix (K := K) rfl) (pv 5) pe_int (fun _ _ => rfl)) (pe_ix (k_ix (K := K) rfl) (pv 4) pe_int (fun _ _ => rfl)) (nomark _))) (fun _ _ _ _ _ => (pe_tup (pa_cons (pe_ix (k_ix (K := K) rfl) (pv 5) pe_int (fun _ _ => rfl)) (pa_cons (pe_ix (k_ix (K := K) rfl) (pv 5) pe_int (fun _ _ => rfl)) pa_nil))))))
     (pss_one (ps_if (pt_cmpR (k_eq (K := K) rfl hr.units) (pe_ix (k_ix (K := K) rfl) (pv 4) pe_int (fun _ _ => rfl)) pe_str (nomark _))
     (pss_one (ps_set (i := 6) sc__law_cause.nd rfl (Or.inl rfl) (pe_slice (k_sl (K := K) rfl) (pe_dget hu (pv 3) pe_str (fun _ _ => rfl)) po_none (po_some pe_int))))
     (pss_one (ps_setLc (i := 6) (own := [("k", 7)]) (g := gName 7) (by rfl) sc__law_cause.nd rfl rfl (sw_true rfl rfl rfl (by decide +kernel)) (k_list (K := K) rfl (pe_df D__law_waits (hr.mono (by decide)) (by rfl) (pa_cons (pv 1) (pa_cons (pv 3) (pa_cons (pe_ix (k_ix (K := K) rfl) (pv 4) pe_int (fun _ _ => rfl)) pa_nil))))) (blkOk_by (own := [("k", 7)]) (N := ["mill", "rings", "terms", "now", "event", "one", "due", "k"]) (sc := defScope s__law_cause) (by decide +kernel)) (fun _ _ _ _ _ => pg_name (i := 7) sc__law_cause.nd rfl (Or.inl rfl)) (fun _ _ _ _ _ => pts_one (pt_cmpR (k_eq (K := K) rfl hr.units) (pv 7) (pe_ix (k_ix (K := K) rfl) (pv 4) pe_int (fun _ _ => rfl)) (nomark _))) (fun _ _ _ _ _ => (pe_tup (pa_cons (pv 7) pa_nil))))))))
     (pss_cons (ps_if (PW.pt (pw_or (pt_cmpR (k_eq (K := K) rfl hr.units) (pv 6) (pe_lst pa_nil) (nomark _)) (pw_or1 (pt_cmpR (k_ne (K := K) rfl hr.units) (pe_ix (k_ix (K := K) rfl) (pe_ix (k_ix (K := K) rfl) (pv 6) pe_int (fun _ _ => rfl)) pe_int (fun _ _ => rfl)) (pe_ix (k_ix (K := K) rfl) (pv 4) pe_int (fun _ _ => rfl)) (nomark _)))))
     (pss_one (ps_ret pe_str))
     pss_nil)
     (pss_cons (ps_if (PW.pt (pw_and (pt_cmpR (k_eq (K := K) rfl hr.units) (pe_ix (k_ix (K := K) rfl) (pv 4) pe_int (fun _ _ => rfl)) pe_str (nomark _)) (pw_and1 (pt_val (pe_dget hu (pv 3) pe_str (fun _ _ => rfl))))))
     (pss_one (ps_ret pe_str))
     pss_nil)
     (pss_cons (ps_if (PW.pt (pw_and (pt_cmpR (k_eq (K := K) rfl hr.units) (pe_ix (k_ix (K := K) rfl) (pv 4) pe_int (fun _ _ => rfl)) pe_str (nomark _)) (pw_and1 (pt_cmpR o_lt (pe_ix (k_ix (K := K) rfl) (pe_df D__law_waits (hr.mono (by decide)) (by rfl) (pa_cons (pv 1) (pa_cons (pv 3) (pa_cons (pe_ix (k_ix (K := K) rfl) (pv 4) pe_int (fun _ _ => rfl)) pa_nil)))) pe_int (fun _ _ => rfl)) (pe_ix (k_ix (K := K) rfl) (pv 4) pe_int (fun _ _ => rfl)) (nomark _)))))
     (pss_one (ps_ret pe_str))
     pss_nil)
     (pss_cons (ps_if (PW.pt (pw_and (pt_cmpR (k_eq (K := K) rfl hr.units) (pe_ix (k_ix (K := K) rfl) (pv 4) pe_int (fun _ _ => rfl)) pe_str (nomark _)) (pw_and1 (pt_cmpR (k_ne (K := K) rfl hr.units) (pe_ix (k_ix (K := K) rfl) (pe_ix (k_ix (K := K) rfl) (pv 6) pe_int (fun _ _ => rfl)) pe_int (fun _ _ => rfl)) (pe_ix (k_ix (K := K) rfl) (pv 4) pe_int (fun _ _ => rfl)) (nomark _)))))
     (pss_one (ps_ret pe_str))
     pss_nil)
     (pss_cons (ps_if (PW.pt (pw_and (pt_cmpR (k_ne (K := K) rfl hr.units) (pe_ix (k_ix (K := K) rfl) (pv 4) pe_int (fun _ _ => rfl)) pe_str (nomark _)) (pw_and1 (pt_cmpR (k_ne (K := K) rfl hr.units) (pe_ix (k_ix (K := K) rfl) (pe_ix (k_ix (K := K) rfl) (pv 6) pe_int (fun _ _ => rfl)) (pe_un o_neg pe_int) (fun _ _ => rfl)) (pe_ix (k_ix (K := K) rfl) (pv 4) (pe_un o_neg pe_int) (fun _ _ => rfl)) (nomark _)))))
     (pss_one (ps_ret pe_str))
     pss_nil)
     (pss_one (ps_ret pe_non))))))))))))), fun G J es g Φ h => ?_⟩
  · obtain ⟨m, rs, tm, sd, e, rfl, _⟩ := h
    rfl
  · obtain ⟨m, rs, tm, sd, e, rfl, hm, hr, hs, h⟩ := h
    walk_at "S"
    cases e
    case fin bt p w =>
      walk_at "RN"
      refine ⟨fun e => ?_, fun e => ?_⟩
      · have e1 := of_decide_eq_true e
        walk_at "RN"
        rw [cause_beat (by exact e1)] at h
        exact h
      have e1 := of_decide_eq_false e
      walk_at "RN"
      refine we_lcM sd.owed owD (fun o => decide (o.since + tm.longest < bt)) owD tg_name ?_
      refine wi_list ?_
      walk_at "RN"
      refine ⟨by have := hs.n1; omega, fun o ho => ?_, ?_⟩
      · refine ⟨_, rfl, ?_⟩
        walk_at "W"
        walk_at "RN"
        refine ⟨fun e => ?_, fun e => ⟨e, rfl⟩⟩
        walk_at "RN"
        exact ⟨e, rfl, rfl⟩
      walk_at "RN"
      refine ro_ne_nilL 1 (by decide) (ok_ow 0 _) ?_
      rw [fil_empty, Bool.not_not]
      walk_at "RN"
      refine ⟨fun e => ?_, fun e => ?_⟩
      · walk_at "RN"
        rw [cause_over (by exact e1) e] at h
        exact h
      have e5 : (sd.owed.find? fun o => decide (o.since + tm.longest < bt)) = none := by
        rw [List.find?_eq_none]
        intro o ho z
        rw [any_of ho z] at e
        cases e
      rw [cause_rest (by exact e1) e5] at h

      walk_at "RN"
      refine ⟨m, rs, tm, sd, bt, p, w, rfl, hm, hr, hs, h⟩
    case late bt n w =>
      walk_at "RN"
      refine ⟨fun e => ?_, fun e => ?_⟩
      · have e1 := of_decide_eq_true e
        walk_at "RN"
        rw [cause_beat (by exact e1)] at h
        exact h
      have e1 := of_decide_eq_false e
      walk_at "RN"
      refine we_lcM sd.owed owD (fun o => decide (o.since + tm.longest < bt)) owD tg_name ?_
      refine wi_list ?_
      walk_at "RN"
      refine ⟨by have := hs.n1; omega, fun o ho => ?_, ?_⟩
      · refine ⟨_, rfl, ?_⟩
        walk_at "W"
        walk_at "RN"
        refine ⟨fun e => ?_, fun e => ⟨e, rfl⟩⟩
        walk_at "RN"
        exact ⟨e, rfl, rfl⟩
      walk_at "RN"
      refine ro_ne_nilL 1 (by decide) (ok_ow 0 _) ?_
      rw [fil_empty, Bool.not_not]
      walk_at "RN"
      refine ⟨fun e => ?_, fun e => ?_⟩
      · walk_at "RN"
        rw [cause_over (by exact e1) e] at h
        exact h
      have e5 : (sd.owed.find? fun o => decide (o.since + tm.longest < bt)) = none := by
        rw [List.find?_eq_none]
        intro o ho z
        rw [any_of ho z] at e
        cases e
      rw [cause_rest (by exact e1) e5] at h

      walk_at "RN"
      refine we_lcM sd.owed owD (fun o => decide (o.n = n)) pairD tg_name ?_
      refine wi_list ?_
      walk_at "RN"
      refine ⟨by have := hs.n1; omega, fun o ho => ?_, ?_⟩
      · refine ⟨_, rfl, ?_⟩
        walk_at "W"
        walk_at "RN"
        refine ⟨fun e => ?_, fun e => ⟨e, rfl⟩⟩
        walk_at "RN"
        exact ⟨e, rfl, rfl⟩
      simp only [lateCause, find_filter] at h
      have hp : ∀ o, o ∈ (sd.owed.filter fun o => decide (o.n = n)) → o.n = n := fun o ho => of_decide_eq_true (List.mem_filter.mp ho).2
      generalize (sd.owed.filter fun o => decide (o.n = n)) = l at h hp ⊢
      walk_at "RN"
      refine ro_eq_nilL 1 (by decide) (ok_pairs _) ?_
      rcases l with _ | ⟨o, os⟩
      · walk_at "RN"
        exact h
      · have hn := hp o (List.mem_cons_self)
        walk_at "RN"
        refine i_f (by rw [hn]; simp) ?_
        walk_at "RN"
        refine ⟨fun q => ?_, fun q => ?_⟩
        · walk_at "RN"
          have q' : ¬ o.worth = w := by simpa using q
          simpa [q'] using h
        · walk_at "RN"
          have q' : o.worth = w := by simpa using q
          simpa [q'] using h
    case down bt n i w =>
      walk_at "RN"
      refine ⟨fun e => ?_, fun e => ?_⟩
      · have e1 := of_decide_eq_true e
        walk_at "RN"
        rw [cause_beat (by exact e1)] at h
        exact h
      have e1 := of_decide_eq_false e
      walk_at "RN"
      refine we_lcM sd.owed owD (fun o => decide (o.since + tm.longest < bt)) owD tg_name ?_
      refine wi_list ?_
      walk_at "RN"
      refine ⟨by have := hs.n1; omega, fun o ho => ?_, ?_⟩
      · refine ⟨_, rfl, ?_⟩
        walk_at "W"
        walk_at "RN"
        refine ⟨fun e => ?_, fun e => ⟨e, rfl⟩⟩
        walk_at "RN"
        exact ⟨e, rfl, rfl⟩
      walk_at "RN"
      refine ro_ne_nilL 1 (by decide) (ok_ow 0 _) ?_
      rw [fil_empty, Bool.not_not]
      walk_at "RN"
      refine ⟨fun e => ?_, fun e => ?_⟩
      · walk_at "RN"
        rw [cause_over (by exact e1) e] at h
        exact h
      have e5 : (sd.owed.find? fun o => decide (o.since + tm.longest < bt)) = none := by
        rw [List.find?_eq_none]
        intro o ho z
        rw [any_of ho z] at e
        cases e
      rw [cause_rest (by exact e1) e5] at h

      walk_at "RN"
      simp only [downCause] at h
      rcases hl : sd.laid with _ | ⟨o, os⟩
      · walk_at "RN"
        refine ro_eq_nilL 1 (by decide) rfl ?_
        walk_at "RN"
        rw [hl] at h
        exact h
      · rw [hl] at h
        have hc : cutD (List.map laD (o :: os)) none (some 1) = [laD o] := cut_take (i := 1) (by simp)
        rw [hc]
        refine ro_eq_nilL 1 (by decide) rfl ?_
        walk_at "RN"
        refine ⟨fun q => ?_, fun q => ?_⟩
        · have q' : ¬ o.n = n := by simpa using q
          walk_at "RN"
          simpa [q'] using h
        have q1 : o.n = n := by simpa using q
        simp only [q1, ne_eq, not_true_eq_false, if_false] at h
        walk_at "RN"
        refine ⟨fun q => ?_, fun q => ?_⟩
        · have q' : ¬ o.i = i := by simpa using q
          walk_at "RN"
          simpa [q'] using h
        have q2 : o.i = i := by simpa using q
        simp only [q2, ne_eq, not_true_eq_false, if_false] at h
        walk_at "RN"
        refine ⟨fun q => ?_, fun q => ?_⟩
        · have q' : ¬ o.worth = w := by simpa using q
          walk_at "RN"
          simpa [q'] using h
        · have q' : o.worth = w := by simpa using q
          walk_at "RN"
          simpa [q'] using h
    case bell bt k =>
      walk_at "RN"
      refine ⟨fun e => ?_, fun e => ?_⟩
      · have e1 := of_decide_eq_true e
        walk_at "RN"
        rw [cause_beat (by exact e1)] at h
        exact h
      have e1 := of_decide_eq_false e
      walk_at "RN"
      refine we_lcM sd.owed owD (fun o => decide (o.since + tm.longest < bt)) owD tg_name ?_
      refine wi_list ?_
      walk_at "RN"
      refine ⟨by have := hs.n1; omega, fun o ho => ?_, ?_⟩
      · refine ⟨_, rfl, ?_⟩
        walk_at "W"
        walk_at "RN"
        refine ⟨fun e => ?_, fun e => ⟨e, rfl⟩⟩
        walk_at "RN"
        exact ⟨e, rfl, rfl⟩
      walk_at "RN"
      refine ro_ne_nilL 1 (by decide) (ok_ow 0 _) ?_
      rw [fil_empty, Bool.not_not]
      walk_at "RN"
      refine ⟨fun e => ?_, fun e => ?_⟩
      · walk_at "RN"
        rw [cause_over (by exact e1) e] at h
        exact h
      have e5 : (sd.owed.find? fun o => decide (o.since + tm.longest < bt)) = none := by
        rw [List.find?_eq_none]
        intro o ho z
        rw [any_of ho z] at e
        cases e
      rw [cause_rest (by exact e1) e5] at h

      walk_at "RN"
      refine we_lcM (waits rs sd.took bt) Dv.int (fun x => decide (x = k)) oneD tg_name ?_
      refine wi_list ?_
      walk_at "RN"
      refine ⟨m, rs, sd, bt, rfl, hr, hs.n3, ?_⟩
      walk_at "RN"
      refine ⟨Nat.le_trans (waits_len _ _ _) (by decide), fun o ho => ?_, ?_⟩
      · refine ⟨_, rfl, ?_⟩
        walk_at "W"
        walk_at "RN"
        refine ⟨fun e => ?_, fun e => ⟨e, rfl⟩⟩
        walk_at "RN"
        exact ⟨e, rfl, rfl⟩
      simp only [bellCause] at h
      walk_at "RN"
      refine ro_eq_nilL 1 (by decide) (ok_ones _) ?_
      by_cases hk : k ∈ waits rs sd.took bt
      · rw [if_neg (by simpa using hk)] at h
        obtain ⟨x, xs, hf⟩ : ∃ x xs, ((waits rs sd.took bt).filter fun x => decide (x = k)) = x :: xs := by
          cases z : ((waits rs sd.took bt).filter fun x => decide (x = k)) with
          | nil =>
            have : k ∈ ((waits rs sd.took bt).filter fun x => decide (x = k)) := List.mem_filter.mpr ⟨hk, by simp⟩
            rw [z] at this
            cases this
          | cons x xs => exact ⟨x, xs, rfl⟩
        have hx : x = k := by
          have : x ∈ ((waits rs sd.took bt).filter fun x => decide (x = k)) := by rw [hf]; exact List.mem_cons_self
          exact of_decide_eq_true (List.mem_filter.mp this).2
        rw [hf]
        walk_at "RN"
        refine i_f (by rw [hx]; simp) ?_
        walk_at "RN"
        refine ⟨fun e => ?_, fun e => ?_⟩
        · walk_at "RN"
          rw [if_pos e] at h
          exact h
        rw [if_neg (by rw [e]; exact Bool.false_ne_true)] at h
        walk_at "RN"
        refine ⟨m, rs, sd, bt, rfl, hr, hs.n3, ?_⟩
        obtain ⟨y, ys, hw⟩ : ∃ y ys, waits rs sd.took bt = y :: ys := by
          cases z : waits rs sd.took bt with
          | nil => rw [z] at hk; cases hk
          | cons y ys => exact ⟨y, ys, rfl⟩
        rw [hw] at h ⊢
        walk_at "RN"
        refine ⟨fun q => ?_, fun q => ?_⟩
        · rw [if_pos (by simpa using q)] at h
          walk_at "RN"
          exact h
        · rw [if_neg (by simpa using q)] at h
          walk_at "RN"
          exact h
      · have hf : ((waits rs sd.took bt).filter fun x => decide (x = k)) = [] := by
          rw [List.filter_eq_nil_iff]
          intro a ha z
          have := of_decide_eq_true z
          subst this
          exact hk ha
        rw [if_pos hk] at h
        rw [hf]
        walk_at "RN"
        exact h
abbrev s__law_sure : Stmt := top 54
theorem sc__law_sure : FnScope ["mill", "rings", "terms", "now", "beat", "resting", "waits"] ["mill", "rings", "terms", "now"] (defScope s__law_sure) := ⟨rfl, rfl, rfl, by decide +kernel, rfl, by decide +kernel, by decide +kernel⟩
theorem df__law_sure (B : Bl mg) (D__law_waits : Df P w K mg base "_law_waits" 1 ["rings", "now", "beat"] (spD S__law_waits)) (D__law_due : Df P w K mg base "_law_due" 1 ["row", "now"] (spD S__law_due)) (F : FuD K mg "_law_sure" ["mill", "rings", "terms", "now"] s__law_sure) : Df P w K mg base "_law_sure" 3 ["mill", "rings", "terms", "now"] (spD S__law_sure) := by
  refine F.ok (n := 2) sc__law_sure (fun G J es g Φ h => ?_) fun f cdv A outer s H E hr => ⟨_, (have hu := hu_of hr; (pss_cons (ps_set (i := 4) sc__law_sure.nd rfl (Or.inl rfl) (pe_dget hu (pv 3) pe_str (fun _ _ => rfl)))
     (pss_cons (ps_if (pt_cmpR (k_ne (K := K) rfl hr.units) (pe_dget hu (pv 3) pe_str (fun _ _ => rfl)) (pe_lst pa_nil) (nomark _))
     (pss_one (ps_ret (pe_tup (pa_cons pe_str (pa_cons (pv 4) (pa_cons (pe_ix (k_ix (K := K) rfl) (pe_ix (k_ix (K := K) rfl) (pe_dget hu (pv 3) pe_str (fun _ _ => rfl)) pe_int (fun _ _ => rfl)) pe_int (fun _ _ => rfl)) (pa_cons (pe_ix (k_ix (K := K) rfl) (pe_ix (k_ix (K := K) rfl) (pe_dget hu (pv 3) pe_str (fun _ _ => rfl)) pe_int (fun _ _ => rfl)) pe_int (fun _ _ => rfl)) pa_nil)))))))
     pss_nil)
     (pss_cons (ps_if (pt_cmpR (k_ne (K := K) rfl hr.units) (pe_dget hu (pv 3) pe_str (fun _ _ => rfl)) (pe_lst pa_nil) (nomark _))
     (pss_one (ps_ret (pe_op (k_add (K := K) rfl) (pe_tup (pa_cons pe_str (pa_cons (pv 4) pa_nil))) (pe_ix (k_ix (K := K) rfl) (pe_dget hu (pv 3) pe_str (fun _ _ => rfl)) pe_int (fun _ _ => rfl)))))
     pss_nil)
     (pss_cons (ps_set (i := 5) sc__law_sure.nd rfl (Or.inl rfl) (pe_cmpR (k_eq (K := K) rfl hr.units) (pe_dget hu (pv 3) pe_str (fun _ _ => rfl)) (pe_callB (k_len (K := K) rfl) (by rfl) B.len_ PySem.boot_len (pa_cons (pe_ix (k_ix (K := K) rfl) (pv 0) pe_int (fun _ _ => rfl)) pa_nil)) (nomark _)))
     (pss_cons (ps_if (PW.pt (pw_and (pt_not (pt_val (pv 5))) (pw_and1 (pt_cmpR o_ge (pe_dget hu (pv 3) pe_str (fun _ _ => rfl)) (pe_ix (k_ix (K := K) rfl) (pv 2) pe_int (fun _ _ => rfl)) (nomark _)))))
     (pss_one (ps_set (i := 4) sc__law_sure.nd rfl (Or.inl rfl) (pe_op (k_add (K := K) rfl) (pv 4) pe_int)))
     pss_nil)
     (pss_cons (ps_set (i := 6) sc__law_sure.nd rfl (Or.inl rfl) (pe_df D__law_waits (hr.mono (by decide)) (by rfl) (pa_cons (pv 1) (pa_cons (pv 3) (pa_cons (pv 4) pa_nil)))))
     (pss_cons (ps_if (PW.pt (pw_and (pt_cmpR (k_ne (K := K) rfl hr.units) (pv 6) (pe_lst pa_nil) (nomark _)) (pw_and1 (pt_not (pt_val (pe_dget hu (pv 3) pe_str (fun _ _ => rfl)))))))
     (pss_one (ps_ret (pe_tup (pa_cons pe_str (pa_cons (pv 4) (pa_cons (pe_ix (k_ix (K := K) rfl) (pv 6) pe_int (fun _ _ => rfl)) pa_nil))))))
     pss_nil)
     (pss_cons (ps_if (pt_val (pv 5))
     (pss_one (ps_ret pe_non))
     pss_nil)
     (pss_one (ps_ret (pe_tup (pa_cons pe_str (pa_cons (pv 4) (pa_cons (pe_dget hu (pv 3) pe_str (fun _ _ => rfl)) (pa_cons (pe_df D__law_due (hr.mono (by decide)) (by rfl) (pa_cons (pe_ix (k_ix (K := K) rfl) (pe_ix (k_ix (K := K) rfl) (pv 0) pe_int (fun _ _ => rfl)) (pe_dget hu (pv 3) pe_str (fun _ _ => rfl)) (fun _ _ => rfl)) (pa_cons (pv 3) pa_nil))) pa_nil)))))))))))))))), fun G J es g Φ h => ?_⟩
  · obtain ⟨m, rs, tm, sd, rfl, _⟩ := h
    rfl
  · obtain ⟨m, rs, tm, ⟨st, be, cr, pr, ow, la, tk, en⟩, rfl, hm, hr, hs, h⟩ := h
    walk_at "S"
    have h1 := hs.st.sp
    have h2 := hs.st.ce
    walk_at "RN"
    refine ro_ne_nilL 1 (by decide) (ok_ow 0 _) ?_
    rcases ow with _ | ⟨o, os⟩
    case cons =>
      walk_at "RN"
      exact h (some (.late _ _ _)) (by rintro _ ⟨⟩; trivial)
    case nil =>
      walk_at "RN"
      refine ro_ne_nilL 1 (by decide) (ok_la 0 _) ?_
      rcases la with _ | ⟨o, os⟩
      case cons =>
        walk_at "RN"
        refine ro_add_t (Nat.le_of_ble_eq_true rfl) ?_
        exact h (some (.down _ _ _ _)) (by rintro _ ⟨⟩; trivial)
      case nil =>
        refine ⟨_, rfl, ?_⟩
        refine i_f rfl ?_
        walk_at "XN"
        refine ws_ifX (!decide (st.place = m.rows.length) && decide (tm.width ≤ cr)) (.int (if (!decide (st.place = m.rows.length) && decide (tm.width ≤ cr)) = true then be + 1 else be)) ?_ (fun z => ?_) (fun z => ?_) ?_
        · walk_at "XN"
          refine wt_andX (!decide (st.place = m.rows.length)) (decide (tm.width ≤ cr)) ?_ (fun z => ?_) ⟨rfl, rfl⟩
          · walk_at "XN"
            rw [List.length_map]
            exact ⟨rfl, rfl⟩
          · walk_at "XN"
            rfl
        · walk_at "XN"
          rw [if_pos z]
          exact ⟨rfl, rfl⟩
        · rw [if_neg (by rw [z]; exact Bool.false_ne_true)]
        walk_at "XN"
        refine ⟨m, rs, _, _, rfl, hr, hs.n3, ?_⟩
        walk_at "RN"
        refine ro_ne_nilL 0 (by decide) (ok_ints _ _) ?_
        generalize hb : (if (!decide (st.place = m.rows.length) && decide (tm.width ≤ cr)) = true then be + 1 else be) = b2
        generalize hw : waits rs tk b2 = wl
        rcases wl with _ | ⟨k, ks⟩
        all_goals walk_at "RN"
        · refine ⟨fun e => ?_, fun e => ?_⟩
          · walk_at "RN"
            exact h none (by rintro _ ⟨⟩)
          · have e0 : ¬ st.place = m.rows.length := by
              have := of_decide_eq_false e
              rwa [List.length_map] at this
            have pl : 0 ≤ st.place ∧ st.place < m.rows.length := ⟨hs.st.p0, by have := hs.st.p1; simp only at this; omega⟩
            walk_at "RN"
            refine ⟨_, at_rows pl.1 pl.2, ?_⟩
            walk_at "RN"
            refine ⟨row_ok hm pl.1 pl.2, h1, h2, hs.st.sw, ?_⟩
            walk_at "RN"
            have h4 := h (some (.fin b2 st.place (toWro (wroteBy st.spots st.cells (m.row st.place))))) (by
              rintro _ ⟨⟩
              exact ⟨e0, (toWro_no _).symm⟩)
            simp only [evO, evD, wroD_to] at h4
            exact h4
        · refine ⟨fun e => ?_, fun e => ?_⟩
          · walk_at "RN"
            exact h (some (.bell _ _)) (by rintro _ ⟨⟩; trivial)
          walk_at "RN"
          · refine ⟨fun e => ?_, fun e => ?_⟩
            · walk_at "RN"
              exact h none (by rintro _ ⟨⟩)
            · have e0 : ¬ st.place = m.rows.length := by
                have := of_decide_eq_false e
                rwa [List.length_map] at this
              have pl : 0 ≤ st.place ∧ st.place < m.rows.length := ⟨hs.st.p0, by have := hs.st.p1; simp only at this; omega⟩
              walk_at "RN"
              refine ⟨_, at_rows pl.1 pl.2, ?_⟩
              walk_at "RN"
              refine ⟨row_ok hm pl.1 pl.2, h1, h2, hs.st.sw, ?_⟩
              walk_at "RN"
              have h4 := h (some (.fin b2 st.place (toWro (wroteBy st.spots st.cells (m.row st.place))))) (by
                rintro _ ⟨⟩
                exact ⟨e0, (toWro_no _).symm⟩)
              simp only [evO, evD, wroD_to] at h4
              exact h4
abbrev s__law_some : Stmt := top 55
theorem sc__law_some : FnScope ["bag", "mill", "rings", "terms", "now", "base", "beat", "pick", "waits", "event", "one", "row", "wrote"] ["bag", "mill", "rings", "terms", "now", "base"] (defScope s__law_some) := ⟨rfl, rfl, rfl, by decide +kernel, rfl, by decide +kernel, by decide +kernel⟩
theorem df__law_some (B : Bl mg) (D__law_draw : Df P w K mg base "_law_draw" 1 ["bag", "many"] (spD S__law_draw)) (D__law_waits : Df P w K mg base "_law_waits" 1 ["rings", "now", "beat"] (spD S__law_waits)) (D__law_due : Df P w K mg base "_law_due" 1 ["row", "now"] (spD S__law_due)) (D__law_cause : Df P w K mg base "_law_cause" 3 ["mill", "rings", "terms", "now", "event"] (spD S__law_cause)) (D__law_sure : Df P w K mg base "_law_sure" 3 ["mill", "rings", "terms", "now"] (spD S__law_sure)) (F : FuD K mg "_law_some" ["bag", "mill", "rings", "terms", "now", "base"] s__law_some) : Df P w K mg base "_law_some" 4 ["bag", "mill", "rings", "terms", "now", "base"] (spD S__law_some) := by
  refine F.ok (n := 3) sc__law_some (fun G J es g Φ h => ?_) fun f cdv A outer s H E hr => ⟨_, (have hu := hu_of hr; (pss_cons (ps_set (i := 6) sc__law_some.nd rfl (Or.inl rfl) (pe_op (k_add (K := K) rfl) (pe_callB (c_max rfl) (by rfl) B.max_ (by decide +kernel) (pa_cons (pv 5) (pa_cons (pe_dget hu (pv 4) pe_str (fun _ _ => rfl)) pa_nil))) (pe_ix (k_ix (K := K) rfl) (pe_lst (pa_cons pe_int (pa_cons pe_int (pa_cons pe_int (pa_cons (pe_df D__law_draw (hr.mono (by decide)) (by rfl) (pa_cons (pv 0) (pa_cons pe_int pa_nil))) pa_nil))))) (pe_df D__law_draw (hr.mono (by decide)) (by rfl) (pa_cons (pv 0) (pa_cons pe_int pa_nil))) (fun _ _ => rfl))))
     (pss_cons (ps_set (i := 7) sc__law_some.nd rfl (Or.inl rfl) (pe_df D__law_draw (hr.mono (by decide)) (by rfl) (pa_cons (pv 0) (pa_cons pe_int pa_nil))))
     (pss_cons (ps_set (i := 8) sc__law_some.nd rfl (Or.inl rfl) (pe_df D__law_waits (hr.mono (by decide)) (by rfl) (pa_cons (pv 2) (pa_cons (pv 4) (pa_cons (pv 6) pa_nil)))))
     (pss_cons (ps_set (i := 9) sc__law_some.nd rfl (Or.inl rfl) pe_non)
     (pss_cons (ps_if (PW.pt (pw_and (pt_cmpR o_lt (pv 7) pe_int (nomark _)) (pw_and1 (pt_cmpR (k_ne (K := K) rfl hr.units) (pe_dget hu (pv 4) pe_str (fun _ _ => rfl)) (pe_lst pa_nil) (nomark _)))))
     (pss_cons (ps_set (i := 10) sc__law_some.nd rfl (Or.inl rfl) (pe_ix (k_ix (K := K) rfl) (pe_dget hu (pv 4) pe_str (fun _ _ => rfl)) (pe_df D__law_draw (hr.mono (by decide)) (by rfl) (pa_cons (pv 0) (pa_cons (pe_callB (k_len (K := K) rfl) (by rfl) B.len_ PySem.boot_len (pa_cons (pe_dget hu (pv 4) pe_str (fun _ _ => rfl)) pa_nil)) pa_nil))) (fun _ _ => rfl)))
     (pss_one (ps_set (i := 9) sc__law_some.nd rfl (Or.inl rfl) (pe_tup (pa_cons pe_str (pa_cons (pv 6) (pa_cons (pe_ix (k_ix (K := K) rfl) (pv 10) pe_int (fun _ _ => rfl)) (pa_cons (pe_ix (k_ix (K := K) rfl) (pv 10) pe_int (fun _ _ => rfl)) pa_nil))))))))
     (pss_one (ps_if (PW.pt (pw_and (pt_cmpR (k_eq (K := K) rfl hr.units) (pv 7) pe_int (nomark _)) (pw_and1 (pt_cmpR (k_ne (K := K) rfl hr.units) (pe_dget hu (pv 4) pe_str (fun _ _ => rfl)) (pe_lst pa_nil) (nomark _)))))
     (pss_one (ps_set (i := 9) sc__law_some.nd rfl (Or.inl rfl) (pe_op (k_add (K := K) rfl) (pe_tup (pa_cons pe_str (pa_cons (pv 6) pa_nil))) (pe_ix (k_ix (K := K) rfl) (pe_dget hu (pv 4) pe_str (fun _ _ => rfl)) pe_int (fun _ _ => rfl)))))
     (pss_one (ps_if (PW.pt (pw_and (pt_cmpR (k_in (K := K) rfl) (pv 7) (pe_tup (pa_cons pe_int (pa_cons pe_int pa_nil))) (by rfl)) (pw_and (pt_cmpR (k_ne (K := K) rfl hr.units) (pv 8) (pe_lst pa_nil) (nomark _)) (pw_and1 (pt_not (pt_val (pe_dget hu (pv 4) pe_str (fun _ _ => rfl))))))))
     (pss_one (ps_set (i := 9) sc__law_some.nd rfl (Or.inl rfl) (pe_tup (pa_cons pe_str (pa_cons (pv 6) (pa_cons (pe_ix (k_ix (K := K) rfl) (pv 8) pe_int (fun _ _ => rfl)) pa_nil))))))
     (pss_one (ps_if (pt_cmpR o_lt (pe_dget hu (pv 4) pe_str (fun _ _ => rfl)) (pe_callB (k_len (K := K) rfl) (by rfl) B.len_ PySem.boot_len (pa_cons (pe_ix (k_ix (K := K) rfl) (pv 1) pe_int (fun _ _ => rfl)) pa_nil)) (nomark _))
     (pss_cons (ps_set (i := 11) sc__law_some.nd rfl (Or.inl rfl) (pe_ix (k_ix (K := K) rfl) (pe_ix (k_ix (K := K) rfl) (pv 1) pe_int (fun _ _ => rfl)) (pe_dget hu (pv 4) pe_str (fun _ _ => rfl)) (fun _ _ => rfl)))
     (pss_cons (ps_set (i := 12) sc__law_some.nd rfl (Or.inl rfl) (pe_df D__law_due (hr.mono (by decide)) (by rfl) (pa_cons (pv 11) (pa_cons (pv 4) pa_nil))))
     (pss_cons (ps_if (PW.pt (pw_and (pt_cmpR (k_in (K := K) rfl) (pe_ix (k_ix (K := K) rfl) (pv 11) pe_int (fun _ _ => rfl)) (pe_tup (pa_cons pe_str (pa_cons pe_str pa_nil))) (by rfl)) (pw_and1 (pt_cmpR o_lt (pe_df D__law_draw (hr.mono (by decide)) (by rfl) (pa_cons (pv 0) (pa_cons pe_int pa_nil))) pe_int (nomark _)))))
     (pss_one (ps_set (i := 12) sc__law_some.nd rfl (Or.inl rfl) (pe_tup (pa_cons (pe_ix (k_ix (K := K) rfl) (pv 12) pe_int (fun _ _ => rfl)) (pa_cons (pe_ix (k_ix (K := K) rfl) (pv 12) pe_int (fun _ _ => rfl)) (pa_cons pe_non pa_nil))))))
     pss_nil)
     (pss_one (ps_set (i := 9) sc__law_some.nd rfl (Or.inl rfl) (pe_tup (pa_cons pe_str (pa_cons (pv 6) (pa_cons (pe_dget hu (pv 4) pe_str (fun _ _ => rfl)) (pa_cons (pv 12) pa_nil))))))))))
     pss_nil)))))))
     (pss_cons (ps_if (PW.pt (pw_or (pt_cmpR o_is (pv 9) pe_non (nomark _)) (pw_or1 (pt_cmpR o_isnt (pe_df D__law_cause (hr.mono (by decide)) (by rfl) (pa_cons (pv 1) (pa_cons (pv 2) (pa_cons (pv 3) (pa_cons (pv 4) (pa_cons (pv 9) pa_nil)))))) pe_non (nomark _)))))
     (pss_one (ps_ret (pe_df D__law_sure (hr.mono (by decide)) (by rfl) (pa_cons (pv 1) (pa_cons (pv 2) (pa_cons (pv 3) (pa_cons (pv 4) pa_nil)))))))
     pss_nil)
     (pss_one (ps_ret (pv 9)))))))))), fun G J es g Φ h => ?_⟩
  · obtain ⟨a, b, gr, fold, cnt, bump, rfl, _⟩ := h
    rfl
  · obtain ⟨⟨m, rs, tm, sd, base⟩, b, gr, fold, cnt, bump, rfl, B, ok, hc, h⟩ := h
    dsimp only at hc h ok
    walk_at "S"
    refine ws_start B ?_

    obtain ⟨hm, hr, hs⟩ := ok
    walk_at "RB"
    refine rc_max ?_
    walk_at "RB"
    rename_i x x0 x1 y y0 y1
    refine ex_any ⟨y0, by simpa using y1, fun d hd => ?_⟩
    obtain ⟨z, rfl⟩ : ∃ z, d = .int z := by
      simp only [List.mem_cons, List.not_mem_nil, or_false] at hd
      rcases hd with rfl | rfl | rfl | rfl <;> exact ⟨_, rfl⟩
    walk_at "RB"
    generalize (if sd.beat > base then sd.beat else base) + z = beat
    refine ⟨m, rs, sd, beat, rfl, hr, hs.n3, ?_⟩
    walk_at "XB"
    rename_i pick p0 p1
    refine ws_mid (fun ds' g' => ∃ (e : Option Ev) (s10 s11 s12 : Option Dv) (n : Nat), ds' = [some (.raw (.ref b)), some (millD m), some (ringsD rs), some (tmD tm), some (nowD sd), some (.int base), some (.int beat), some (.int pick), some (.lst (intsD (waits rs sd.took beat))), some (evO e), s10, s11, s12] ∧
      (∀ x, e = some x → Good m sd x) ∧ cnt g ≤ n ∧ n ≤ cnt g + 8 ∧ g' = bump g n) ?_ ?_
    · have hl1 : (sd.owed.map owD).length = sd.owed.length := List.length_map _
      have hn1 := hs.n1
      refine ws_if ?_
      refine wt_andX (decide (pick < 2)) (!sd.owed.isEmpty) ?_ (fun z => ?_) ?_
      · walk_at "RB"
        rfl
      · walk_at "RB"
        refine ro_ne_nilL 1 (by decide) (ok_ow 0 _) ?_
        walk_at "RB"
        refine ⟨?_, rfl⟩
        cases sd.owed <;> rfl
      refine ⟨fun e => ?_, fun e => ?_⟩
      · have hpos : 0 < sd.owed.length := by
          cases ho : sd.owed with
          | nil => rw [ho] at e; simp at e
          | cons x xs => simp
        walk_at "RB"
        rename_i k k0 k1
        obtain ⟨d, hd, hd2⟩ := at_any k0 k1
        obtain ⟨o, ho, rfl⟩ := List.mem_map.mp hd2
        refine ⟨_, hd, ?_⟩
        walk_at "RB"
        exact ⟨some (.late beat o.n o.worth), _, _, _, _, rfl, (by rintro _ ⟨⟩; trivial), by omega, by omega, rfl⟩
      refine ws_if ?_
      refine wt_andX (decide (pick = 2)) (!sd.laid.isEmpty) ?_ (fun z => ?_) ?_
      · walk_at "RB"
        rfl
      · walk_at "RB"
        refine ro_ne_nilL 1 (by decide) (ok_la 0 _) ?_
        walk_at "RB"
        refine ⟨?_, rfl⟩
        cases sd.laid <;> rfl
      refine ⟨fun e => ?_, fun e => ?_⟩
      · obtain ⟨o, os, ho⟩ : ∃ o os, sd.laid = o :: os := by
          cases ho : sd.laid with
          | nil => rw [ho] at e; simp at e
          | cons x xs => exact ⟨x, xs, rfl⟩
        walk_at "RB"
        refine ⟨laD o, by rw [ho]; exact at_cons0, ?_⟩
        refine ro_add_t (Nat.le_of_ble_eq_true rfl) ?_
        exact ⟨some (.down beat o.n o.i o.worth), _, _, _, _, rfl, (by rintro _ ⟨⟩; trivial), by omega, by omega, rfl⟩
      refine ws_if ?_
      refine wt_andX (inD (.int pick) [.int 3, .int 4]) (!(waits rs sd.took beat).isEmpty && !sd.st.shut) ?_ (fun z => ?_) ?_
      · walk_at "RB"
        refine ro_in_t rfl rfl ?_
        walk_at "RB"
        rfl
      · refine wt_andX (!(waits rs sd.took beat).isEmpty) (!sd.st.shut) ?_ (fun z => ?_) ⟨rfl, rfl⟩
        · walk_at "RB"
          refine ro_ne_nilL 0 (by decide) (ok_ints 0 _) ?_
          walk_at "RB"
          refine ⟨?_, rfl⟩
          cases waits rs sd.took beat <;> rfl
        · walk_at "RB"
          rfl
      refine ⟨fun e => ?_, fun e => ?_⟩
      · obtain ⟨k, ks, hw⟩ : ∃ k ks, waits rs sd.took beat = k :: ks := by
          cases ho : waits rs sd.took beat with
          | nil => rw [ho] at e; simp at e
          | cons x xs => exact ⟨x, xs, rfl⟩
        walk_at "RB"
        refine ⟨.int k, by rw [hw]; exact at_cons0, ?_⟩
        walk_at "RB"
        exact ⟨some (.bell beat k), _, _, _, _, rfl, (by rintro _ ⟨⟩; trivial), by omega, by omega, rfl⟩
      walk_at "RB"
      rw [List.length_map]
      refine ⟨fun e => ?_, fun e => ?_⟩
      · have e1 := of_decide_eq_true e
        have p0 := hs.st.p0
        walk_at "RB"
        refine ⟨.tup (.str (rname (m.row sd.st.place)) :: rargs (m.row sd.st.place)), by rw [at_rows p0 e1, rowD_eq], ?_⟩
        walk_at "RB"
        refine ⟨m.row sd.st.place, sd, by rw [rowD_eq], row_ok hm p0 e1, hs.st.sp, hs.st.ce, hs.st.sw, ?_⟩
        have h2 : (step m sd.st).2 = wroteBy sd.st.spots sd.st.cells (m.row sd.st.place) := rfl
        have gd : ∀ w, ((step m sd.st).2 = .no ↔ w = .no) → ∀ x, some (Ev.fin beat sd.st.place w) = some x → Good m sd x := fun w hw x z => by
          cases z
          exact ⟨by omega, hw⟩
        have fin1 := gd (toWro (wroteBy sd.st.spots sd.st.cells (m.row sd.st.place))) (by rw [h2]; exact (toWro_no _).symm)
        walk_at "XB"
        refine ws_if ?_
        refine wt_and ?_
        walk_at "XB"
        refine ro_in_t rfl rfl ?_
        rw [slow_in]
        walk_at "XB"
        refine ⟨fun e => ?_, fun e => ?_⟩
        · walk_at "RB"
          refine ⟨fun e3 => ?_, fun e3 => ?_⟩
          · obtain ⟨d, w, hd⟩ := slow_spot e sd.st.spots sd.st.cells
            rw [hd]
            walk_at "RB"
            exact ⟨some (.fin beat sd.st.place (.spot d none)), _, _, _, _, rfl, gd _ (by rw [h2, hd]; simp), by omega, by omega, rfl⟩
          · walk_at "RB"
            rw [← wroD_to]
            exact ⟨some (.fin beat sd.st.place _), _, _, _, _, rfl, fin1, by omega, by omega, rfl⟩
        · walk_at "RB"
          rw [← wroD_to]
          exact ⟨some (.fin beat sd.st.place _), _, _, _, _, rfl, fin1, by omega, by omega, rfl⟩
      · walk_at "RB"
        exact ⟨none, _, _, _, _, rfl, (fun _ z => nomatch z), by omega, by omega, rfl⟩
    · rintro ds' g' ⟨e, s10, s11, s12, n, rfl, he, n0, n1, rfl⟩
      cases e with
      | none =>
        walk_at "RB"
        refine ⟨m, rs, tm, sd, rfl, hm, hr, hs, fun e2 he2 => ?_⟩
        exact h _ _ (by omega) (by omega) ⟨e2, rfl, he2⟩
      | some ev =>
        walk_at "RB"
        refine ⟨noRaw_ev _, ?_⟩
        rw [isN_ev]
        walk_at "RB"
        refine ⟨m, rs, tm, sd, ev, rfl, hm, hr, hs, ?_⟩
        walk_at "RB"
        refine ⟨noRaw_cause _, ?_⟩
        rw [isN_cause]
        walk_at "RB"
        refine ⟨fun q => ?_, fun q => ?_⟩
        · walk_at "RB"
          refine ⟨m, rs, tm, sd, rfl, hm, hr, hs, fun e2 he2 => ?_⟩
          exact h _ _ (by omega) (by omega) ⟨e2, rfl, he2⟩
        · walk_at "RB"
          exact h _ _ (by omega) (by omega) ⟨some ev, rfl, he⟩
abbrev s__law_wild : Stmt := top 56
theorem sc__law_wild : FnScope ["bag", "now", "beat", "number", "worth", "pick", "wrote"] ["bag", "now"] (defScope s__law_wild) := ⟨rfl, rfl, rfl, by decide +kernel, rfl, by decide +kernel, by decide +kernel⟩
theorem df__law_wild (B : Bl mg) (D__law_draw : Df P w K mg base "_law_draw" 1 ["bag", "many"] (spD S__law_draw)) (D__law_far : Df P w K mg base "_law_far" 2 ["bag"] (spD S__law_far)) (D__law_worth : Df P w K mg base "_law_worth" 2 ["bag"] (spD S__law_worth)) (F : FuD K mg "_law_wild" ["bag", "now"] s__law_wild) : Df P w K mg base "_law_wild" 3 ["bag", "now"] (spD S__law_wild) := by
  refine F.ok (n := 2) sc__law_wild (fun G J es g Φ h => ?_) fun f cdv A outer s H E hr => ⟨_, (have hu := hu_of hr; (pss_cons (ps_set (i := 2) sc__law_wild.nd rfl (Or.inl rfl) (pe_op (k_add (K := K) rfl) (pe_callB (c_max rfl) (by rfl) B.max_ (by decide +kernel) (pa_cons pe_int (pa_cons (pe_op o_sub (pe_dget hu (pv 1) pe_str (fun _ _ => rfl)) (pe_df D__law_draw (hr.mono (by decide)) (by rfl) (pa_cons (pv 0) (pa_cons pe_int pa_nil)))) pa_nil))) (pe_df D__law_draw (hr.mono (by decide)) (by rfl) (pa_cons (pv 0) (pa_cons pe_int pa_nil)))))
     (pss_cons (ps_set (i := 3) sc__law_wild.nd rfl (Or.inl rfl) (pe_ix (k_ix (K := K) rfl) (pe_lst (pa_cons (pe_df D__law_draw (hr.mono (by decide)) (by rfl) (pa_cons (pv 0) (pa_cons pe_int pa_nil))) (pa_cons (pe_dget hu (pv 1) pe_str (fun _ _ => rfl)) (pa_cons (pe_op o_sub (pe_un o_neg pe_int) (pe_df D__law_draw (hr.mono (by decide)) (by rfl) (pa_cons (pv 0) (pa_cons pe_int pa_nil)))) (pa_cons (pe_df D__law_far (hr.mono (by decide)) (by rfl) (pa_cons (pv 0) pa_nil)) pa_nil))))) (pe_df D__law_draw (hr.mono (by decide)) (by rfl) (pa_cons (pv 0) (pa_cons pe_int pa_nil))) (fun _ _ => rfl)))
     (pss_cons (ps_set (i := 4) sc__law_wild.nd rfl (Or.inl rfl) (pe_df D__law_worth (hr.mono (by decide)) (by rfl) (pa_cons (pv 0) pa_nil)))
     (pss_cons (ps_set (i := 5) sc__law_wild.nd rfl (Or.inl rfl) (pe_df D__law_draw (hr.mono (by decide)) (by rfl) (pa_cons (pv 0) (pa_cons pe_int pa_nil))))
     (pss_cons (ps_if (pt_cmpR (k_eq (K := K) rfl hr.units) (pv 5) pe_int (nomark _))
     (pss_one (ps_ret (pe_tup (pa_cons pe_str (pa_cons (pv 2) (pa_cons (pv 3) (pa_cons (pv 4) pa_nil)))))))
     pss_nil)
     (pss_cons (ps_if (pt_cmpR (k_eq (K := K) rfl hr.units) (pv 5) pe_int (nomark _))
     (pss_one (ps_ret (pe_tup (pa_cons pe_str (pa_cons (pv 2) (pa_cons (pv 3) (pa_cons (pe_df D__law_draw (hr.mono (by decide)) (by rfl) (pa_cons (pv 0) (pa_cons pe_int pa_nil))) (pa_cons (pv 4) pa_nil))))))))
     pss_nil)
     (pss_cons (ps_if (pt_cmpR (k_eq (K := K) rfl hr.units) (pv 5) pe_int (nomark _))
     (pss_one (ps_ret (pe_tup (pa_cons pe_str (pa_cons (pv 2) (pa_cons (pv 3) pa_nil))))))
     pss_nil)
     (pss_cons (ps_set (i := 6) sc__law_wild.nd rfl (Or.inl rfl) (pe_lst (pa_cons pe_non (pa_cons (pe_tup (pa_cons pe_str (pa_cons (pe_df D__law_draw (hr.mono (by decide)) (by rfl) (pa_cons (pv 0) (pa_cons pe_int pa_nil))) (pa_cons (pv 4) pa_nil)))) (pa_cons (pe_tup (pa_cons pe_str (pa_cons (pe_df D__law_draw (hr.mono (by decide)) (by rfl) (pa_cons (pv 0) (pa_cons pe_int pa_nil))) (pa_cons pe_non pa_nil)))) (pa_cons (pe_tup (pa_cons pe_str (pa_cons (pv 3) (pa_cons (pv 4) pa_nil)))) pa_nil))))))
     (pss_one (ps_ret (pe_tup (pa_cons pe_str (pa_cons (pv 2) (pa_cons (pe_ix (k_ix (K := K) rfl) (pe_lst (pa_cons (pv 3) (pa_cons (pe_dget hu (pv 1) pe_str (fun _ _ => rfl)) pa_nil))) (pe_df D__law_draw (hr.mono (by decide)) (by rfl) (pa_cons (pv 0) (pa_cons pe_int pa_nil))) (fun _ _ => rfl)) (pa_cons (pe_ix (k_ix (K := K) rfl) (pv 6) (pe_df D__law_draw (hr.mono (by decide)) (by rfl) (pa_cons (pv 0) (pa_cons pe_int pa_nil))) (fun _ _ => rfl)) pa_nil)))))))))))))))), fun G J es g Φ h => ?_⟩
  · obtain ⟨a, b, gr, fold, cnt, bump, rfl, _⟩ := h
    rfl
  · obtain ⟨sd, b, gr, fold, cnt, bump, rfl, B, ok, hc, h⟩ := h
    dsimp only at hc h ok
    walk_at "S"
    refine ws_start B ?_

    walk_at "RB"
    refine rc_max ?_
    walk_at "RB"

    refine ⟨(), _, _, rfl, rfl, True.intro, by omega, ?_⟩
    rintro _ n2 _ _ ⟨fr, rfl, hfr⟩
    walk_at "RB"

    rename_i x x0 x1
    refine ex_any ⟨x0, by simpa using x1, fun d hd => ?_⟩
    obtain ⟨num, rfl⟩ : ∃ z, d = .int z := by
      simp only [List.mem_cons, List.not_mem_nil, or_false] at hd
      rcases hd with rfl | rfl | rfl | rfl <;> exact ⟨_, rfl⟩
    walk_at "RB"

    refine ⟨(), _, _, rfl, rfl, True.intro, by omega, ?_⟩
    rintro _ n3 _ _ ⟨wo, rfl, _, _⟩
    walk_at "RB"

    refine ⟨fun e => ?_, fun e => ?_⟩
    · walk_at "RB"
      exact h _ _ (by omega) (by omega) ⟨.late _ _ _, rfl⟩
    walk_at "RB"
    refine ⟨fun e => ?_, fun e => ?_⟩
    · walk_at "RB"
      exact h _ _ (by omega) (by omega) ⟨.down _ _ _ _, rfl⟩
    walk_at "RB"
    refine ⟨fun e => ?_, fun e => ?_⟩
    · walk_at "RB"
      exact h _ _ (by omega) (by omega) ⟨.bell _ _, rfl⟩
    walk_at "RB"
    rename_i s s0 s1 t t0 t1 y y0 y1
    refine ex_any ⟨y0, by simpa using y1, fun d hd => ?_⟩
    obtain ⟨pl, rfl⟩ : ∃ z, d = .int z := by
      simp only [List.mem_cons, List.not_mem_nil, or_false] at hd
      rcases hd with rfl | rfl <;> exact ⟨_, rfl⟩
    walk_at "RB"

    rename_i w w0 w1
    refine ex_any ⟨w0, by simpa using w1, fun d hd => ?_⟩
    obtain ⟨wr, rfl⟩ : ∃ z : Wro, d = wroD z := by
      simp only [List.mem_cons, List.not_mem_nil, or_false] at hd
      rcases hd with rfl | rfl | rfl | rfl
      · exact ⟨.no, rfl⟩
      · exact ⟨.spot _ (some _), rfl⟩
      · exact ⟨.spot _ none, rfl⟩
      · exact ⟨.cell _ (some _), rfl⟩
    walk_at "RB"
    exact h _ _ (by omega) (by omega) ⟨.fin _ _ _, rfl⟩
abbrev s__law_other_number : Stmt := top 57
theorem sc__law_other_number : FnScope ["bag", "number", "more"] ["bag", "number"] (defScope s__law_other_number) := ⟨rfl, rfl, rfl, by decide +kernel, rfl, by decide +kernel, by decide +kernel⟩
theorem df__law_other_number (B : Bl mg) (D__law_draw : Df P w K mg base "_law_draw" 1 ["bag", "many"] (spD S__law_draw)) (D__law_far : Df P w K mg base "_law_far" 2 ["bag"] (spD S__law_far)) (F : FuD K mg "_law_other_number" ["bag", "number"] s__law_other_number) : Df P w K mg base "_law_other_number" 3 ["bag", "number"] (spD S__law_other_number) := by
  refine F.ok (n := 2) sc__law_other_number (fun G J es g Φ h => ?_) fun f cdv A outer s H E hr => ⟨_, (have hu := hu_of hr; (pss_cons (ps_set (i := 2) sc__law_other_number.nd rfl (Or.inl rfl) (pe_lst (pa_cons (pe_op (k_add (K := K) rfl) (pv 1) pe_int) (pa_cons (pe_op o_sub (pv 1) pe_int) (pa_cons (pe_op (k_add (K := K) rfl) (pv 1) pe_int) (pa_cons (pe_op (k_add (K := K) rfl) (pv 1) pe_int) (pa_cons (pe_op o_sub (pe_un o_neg pe_int) (pv 1)) (pa_cons (pe_df D__law_far (hr.mono (by decide)) (by rfl) (pa_cons (pv 0) pa_nil)) pa_nil))))))))
     (pss_one (ps_ret (pe_ix (k_ix (K := K) rfl) (pv 2) (pe_df D__law_draw (hr.mono (by decide)) (by rfl) (pa_cons (pv 0) (pa_cons pe_int pa_nil))) (fun _ _ => rfl)))))), fun G J es g Φ h => ?_⟩
  · obtain ⟨a, b, gr, fold, cnt, bump, rfl, _⟩ := h
    rfl
  · obtain ⟨num, b, gr, fold, cnt, bump, rfl, B, ok, hc, h⟩ := h
    dsimp only at hc h ok
    walk_at "S"
    refine ws_start B ?_

    walk_at "RB"

    refine ⟨(), _, _, rfl, rfl, True.intro, by omega, ?_⟩
    rintro _ n2 _ _ ⟨fr, rfl, hfr⟩
    walk_at "RB"

    rename_i x x0 x1
    refine ex_any ⟨x0, by simpa using x1, fun d hd => ?_⟩
    obtain ⟨num, rfl⟩ : ∃ z, d = .int z := by
      simp only [List.mem_cons, List.not_mem_nil, or_false] at hd
      rcases hd with rfl | rfl | rfl | rfl | rfl | rfl <;> exact ⟨_, rfl⟩
    walk_at "RB"

    exact h _ _ (by omega) (by omega) ⟨_, rfl, True.intro⟩
abbrev s__law_other_wrote : Stmt := top 58
theorem sc__law_other_wrote : FnScope ["bag", "wrote", "due", "pick"] ["bag", "wrote", "due"] (defScope s__law_other_wrote) := ⟨rfl, rfl, rfl, by decide +kernel, rfl, by decide +kernel, by decide +kernel⟩
theorem df__law_other_wrote (B : Bl mg) (D__law_draw : Df P w K mg base "_law_draw" 1 ["bag", "many"] (spD S__law_draw)) (D__law_worth : Df P w K mg base "_law_worth" 2 ["bag"] (spD S__law_worth)) (D__law_other_number : Df P w K mg base "_law_other_number" 3 ["bag", "number"] (spD S__law_other_number)) (F : FuD K mg "_law_other_wrote" ["bag", "wrote", "due"] s__law_other_wrote) : Df P w K mg base "_law_other_wrote" 4 ["bag", "wrote", "due"] (spD S__law_other_wrote) := by
  refine F.ok (n := 3) sc__law_other_wrote (fun G J es g Φ h => ?_) fun f cdv A outer s H E hr => ⟨_, (have hu := hu_of hr; (pss_cons (ps_set (i := 3) sc__law_other_wrote.nd rfl (Or.inl rfl) (pe_df D__law_draw (hr.mono (by decide)) (by rfl) (pa_cons (pv 0) (pa_cons pe_int pa_nil))))
     (pss_cons (ps_if (pt_cmpR o_is (pv 1) pe_non (nomark _))
     (pss_one (ps_ret (pe_ix (k_ix (K := K) rfl) (pe_lst (pa_cons (pe_tup (pa_cons pe_str (pa_cons (pe_df D__law_draw (hr.mono (by decide)) (by rfl) (pa_cons (pv 0) (pa_cons pe_int pa_nil))) (pa_cons (pe_df D__law_worth (hr.mono (by decide)) (by rfl) (pa_cons (pv 0) pa_nil)) pa_nil)))) (pa_cons (pe_tup (pa_cons pe_str (pa_cons (pe_df D__law_draw (hr.mono (by decide)) (by rfl) (pa_cons (pv 0) (pa_cons pe_int pa_nil))) (pa_cons pe_int pa_nil)))) pa_nil))) (pe_op o_mod (pv 3) pe_int) (fun _ _ => rfl))))
     pss_nil)
     (pss_cons (ps_if (pt_cmpR (k_eq (K := K) rfl hr.units) (pv 3) pe_int (nomark _))
     (pss_one (ps_ret pe_non))
     pss_nil)
     (pss_cons (ps_if (pt_cmpR (k_eq (K := K) rfl hr.units) (pv 3) pe_int (nomark _))
     (pss_one (ps_ret (pe_tup (pa_cons (pe_ix (k_ix (K := K) rfl) (pv 1) pe_int (fun _ _ => rfl)) (pa_cons (pe_df D__law_other_number (hr.mono (by decide)) (by rfl) (pa_cons (pv 0) (pa_cons (pe_ix (k_ix (K := K) rfl) (pv 1) pe_int (fun _ _ => rfl)) pa_nil))) (pa_cons (pe_ix (k_ix (K := K) rfl) (pv 1) pe_int (fun _ _ => rfl)) pa_nil))))))
     pss_nil)
     (pss_cons (ps_if (PW.pt (pw_and (pt_cmpR (k_eq (K := K) rfl hr.units) (pv 3) pe_int (nomark _)) (pw_and (pt_cmpR (k_eq (K := K) rfl hr.units) (pe_ix (k_ix (K := K) rfl) (pv 1) pe_int (fun _ _ => rfl)) pe_str (nomark _)) (pw_and1 (pt_cmpR o_isnt (pe_ix (k_ix (K := K) rfl) (pv 1) pe_int (fun _ _ => rfl)) pe_non (nomark _))))))
     (pss_one (ps_ret (pe_tup (pa_cons (pe_ix (k_ix (K := K) rfl) (pv 1) pe_int (fun _ _ => rfl)) (pa_cons (pe_ix (k_ix (K := K) rfl) (pv 1) pe_int (fun _ _ => rfl)) (pa_cons pe_non pa_nil))))))
     pss_nil)
     (pss_cons (ps_if (PW.pt (pw_and (pt_cmpR (k_eq (K := K) rfl hr.units) (pv 3) pe_int (nomark _)) (pw_and1 (pt_cmpR o_isnt (pe_ix (k_ix (K := K) rfl) (pv 1) pe_int (fun _ _ => rfl)) pe_non (nomark _)))))
     (pss_one (ps_ret (pe_tup (pa_cons (pe_ix (k_ix (K := K) rfl) (pe_lst (pa_cons pe_str (pa_cons pe_str pa_nil))) (pe_callTy c_int (by rfl) B.int_ (by decide +kernel) (pa_cons (pe_cmpR (k_eq (K := K) rfl hr.units) (pe_ix (k_ix (K := K) rfl) (pv 1) pe_int (fun _ _ => rfl)) pe_str (nomark _)) pa_nil)) (fun _ _ => rfl)) (pa_cons (pe_ix (k_ix (K := K) rfl) (pv 1) pe_int (fun _ _ => rfl)) (pa_cons (pe_ix (k_ix (K := K) rfl) (pv 1) pe_int (fun _ _ => rfl)) pa_nil))))))
     pss_nil)
     (pss_one (ps_ret (pe_tup (pa_cons (pe_ix (k_ix (K := K) rfl) (pv 1) pe_int (fun _ _ => rfl)) (pa_cons (pe_ix (k_ix (K := K) rfl) (pv 1) pe_int (fun _ _ => rfl)) (pa_cons (pe_df D__law_other_number (hr.mono (by decide)) (by rfl) (pa_cons (pv 0) (pa_cons (pe_ix (k_ix (K := K) rfl) (pv 2) pe_int (fun _ _ => rfl)) pa_nil))) pa_nil))))))))))))), fun G J es g Φ h => ?_⟩
  · obtain ⟨a, b, gr, fold, cnt, bump, rfl, _⟩ := h
    rfl
  · obtain ⟨⟨w, x⟩, b, gr, fold, cnt, bump, rfl, B, ok, hc, h⟩ := h
    dsimp only at hc h ok
    walk_at "S"
    refine ws_start B ?_

    cases w
    case no =>
      walk_at "RB"
      rename_i pick _ _ _ _ _

      refine ⟨(), _, _, rfl, rfl, True.intro, by omega, ?_⟩
      rintro _ n3 _ _ ⟨wo, rfl, _, _⟩
      walk_at "RB"


      refine ex_any ⟨Int.emod_nonneg _ (by decide), by have := Int.emod_lt_of_pos pick (show (0 : Int) < 2 by decide); simp only [List.length_cons, List.length_nil]; omega, fun d hd => ?_⟩
      refine h _ _ (by omega) (by omega) ?_
      simp only [List.mem_cons, List.not_mem_nil, or_false] at hd
      rcases hd with rfl | rfl
      · exact ⟨.spot _ (some _), rfl⟩
      · exact ⟨.cell _ (some _), rfl⟩
    all_goals rename_i d v
    all_goals obtain ⟨nm, i, w, e⟩ := wrD_tup (x := x) (fun z => by cases ok.mp z)
    all_goals rw [e]
    all_goals walk_at "RB"
    all_goals rename_i pick p0 p1
    all_goals obtain rfl | rfl | rfl | rfl | rfl : pick = 0 ∨ pick = 1 ∨ pick = 2 ∨ pick = 3 ∨ pick = 4 := by omega
    all_goals cases v
    all_goals walk_at "RB"
    all_goals first
      | (first | exact h _ _ (by omega) (by omega) ⟨.no, rfl⟩ | exact h _ _ (by omega) (by omega) ⟨.spot _ none, rfl⟩ | exact h _ _ (by omega) (by omega) ⟨.spot _ (some _), rfl⟩ | exact h _ _ (by omega) (by omega) ⟨.cell _ none, rfl⟩ | exact h _ _ (by omega) (by omega) ⟨.cell _ (some _), rfl⟩)
      | (refine ⟨_, _, _, rfl, rfl, True.intro, by omega, ?_⟩; rintro _ n3 _ _ ⟨wo, rfl, _⟩; walk_at "RB"; first | exact h _ _ (by omega) (by omega) ⟨.no, rfl⟩ | exact h _ _ (by omega) (by omega) ⟨.spot _ none, rfl⟩ | exact h _ _ (by omega) (by omega) ⟨.spot _ (some _), rfl⟩ | exact h _ _ (by omega) (by omega) ⟨.cell _ none, rfl⟩ | exact h _ _ (by omega) (by omega) ⟨.cell _ (some _), rfl⟩)
abbrev s__law_spoilt : Stmt := top 59
theorem sc__law_spoilt : FnScope ["bag", "mill", "terms", "now", "event", "pick", "beats", "one", "wrote"] ["bag", "mill", "terms", "now", "event"] (defScope s__law_spoilt) := ⟨rfl, rfl, rfl, by decide +kernel, rfl, by decide +kernel, by decide +kernel⟩
theorem df__law_spoilt (B : Bl mg) (D__law_draw : Df P w K mg base "_law_draw" 1 ["bag", "many"] (spD S__law_draw)) (D__law_wild : Df P w K mg base "_law_wild" 3 ["bag", "now"] (spD S__law_wild)) (D__law_far : Df P w K mg base "_law_far" 2 ["bag"] (spD S__law_far)) (D__law_other_number : Df P w K mg base "_law_other_number" 3 ["bag", "number"] (spD S__law_other_number)) (D__law_other_wrote : Df P w K mg base "_law_other_wrote" 4 ["bag", "wrote", "due"] (spD S__law_other_wrote)) (D__law_due : Df P w K mg base "_law_due" 1 ["row", "now"] (spD S__law_due)) (F : FuD K mg "_law_spoilt" ["bag", "mill", "terms", "now", "event"] s__law_spoilt) : Df P w K mg base "_law_spoilt" 5 ["bag", "mill", "terms", "now", "event"] (spD S__law_spoilt) := by
  refine F.ok (n := 4) sc__law_spoilt (fun G J es g Φ h => ?_) fun f cdv A outer s H E hr => ⟨_, (have hu := hu_of hr; (pss_cons (ps_set (i := 5) sc__law_spoilt.nd rfl (Or.inl rfl) (pe_df D__law_draw (hr.mono (by decide)) (by rfl) (pa_cons (pv 0) (pa_cons pe_int pa_nil))))
     (pss_cons (ps_if (PW.pt (pw_or (pt_cmpR o_is (pv 4) pe_non (nomark _)) (pw_or1 (pt_cmpR (k_eq (K := K) rfl hr.units) (pv 5) pe_int (nomark _)))))
     (pss_one (ps_ret (pe_df D__law_wild (hr.mono (by decide)) (by rfl) (pa_cons (pv 0) (pa_cons (pv 3) pa_nil)))))
     pss_nil)
     (pss_cons (ps_if (pt_cmpR (k_eq (K := K) rfl hr.units) (pv 5) pe_int (nomark _))
     (pss_cons (ps_set (i := 6) sc__law_spoilt.nd rfl (Or.inl rfl) (pe_lst (pa_cons (pe_op o_sub (pe_dget hu (pv 3) pe_str (fun _ _ => rfl)) pe_int) (pa_cons (pe_op (k_add (K := K) rfl) (pe_op (k_add (K := K) rfl) (pe_ix (k_ix (K := K) rfl) (pv 4) pe_int (fun _ _ => rfl)) pe_int) (pe_df D__law_draw (hr.mono (by decide)) (by rfl) (pa_cons (pv 0) (pa_cons pe_int pa_nil)))) (pa_cons (pe_op (k_add (K := K) rfl) (pe_ix (k_ix (K := K) rfl) (pv 4) pe_int (fun _ _ => rfl)) (pe_df D__law_far (hr.mono (by decide)) (by rfl) (pa_cons (pv 0) pa_nil))) pa_nil)))))
     (pss_cons (ps_set (i := 6) sc__law_spoilt.nd rfl (Or.inl rfl) (pe_op (k_add (K := K) rfl) (pv 6) (pe_lc (own := [("one", 7)]) (g := gName 7) (by rfl) sc__law_spoilt.nd (k_list (K := K) rfl (pe_dget hu (pv 3) pe_str (fun _ _ => rfl))) (blkOk_by (own := [("one", 7)]) (N := ["bag", "mill", "terms", "now", "event", "pick", "beats", "one", "wrote"]) (sc := defScope s__law_spoilt) (by decide +kernel)) (fun _ _ _ _ _ => pg_name (i := 7) sc__law_spoilt.nd rfl (Or.inl rfl)) (fun _ _ _ _ _ => pts_nil) (fun _ _ _ _ _ => (pe_op (k_add (K := K) rfl) (pe_op (k_add (K := K) rfl) (pe_ix (k_ix (K := K) rfl) (pv 7) pe_int (fun _ _ => rfl)) (pe_ix (k_ix (K := K) rfl) (pv 2) pe_int (fun _ _ => rfl))) (pe_df D__law_draw (hr.mono (by decide)) (by rfl) (pa_cons (pv 0) (pa_cons pe_int pa_nil))))))))
     (pss_one (ps_ret (pe_op (k_add (K := K) rfl) (pe_tup (pa_cons (pe_ix (k_ix (K := K) rfl) (pv 4) pe_int (fun _ _ => rfl)) (pa_cons (pe_ix (k_ix (K := K) rfl) (pv 6) (pe_df D__law_draw (hr.mono (by decide)) (by rfl) (pa_cons (pv 0) (pa_cons (pe_callB (k_len (K := K) rfl) (by rfl) B.len_ PySem.boot_len (pa_cons (pv 6) pa_nil)) pa_nil))) (fun _ _ => rfl)) pa_nil))) (pe_slice (k_sl (K := K) rfl) (pv 4) (po_some pe_int) po_none))))))
     pss_nil)
     (pss_cons (ps_if (PW.pt (pw_and (pt_cmpR (k_eq (K := K) rfl hr.units) (pv 5) pe_int (nomark _)) (pw_and1 (pt_cmpR (k_ne (K := K) rfl hr.units) (pe_ix (k_ix (K := K) rfl) (pv 4) pe_int (fun _ _ => rfl)) pe_str (nomark _)))))
     (pss_one (ps_ret (pe_op (k_add (K := K) rfl) (pe_slice (k_sl (K := K) rfl) (pv 4) po_none (po_some (pe_un o_neg pe_int))) (pe_tup (pa_cons (pe_df D__law_other_number (hr.mono (by decide)) (by rfl) (pa_cons (pv 0) (pa_cons (pe_ix (k_ix (K := K) rfl) (pv 4) (pe_un o_neg pe_int) (fun _ _ => rfl)) pa_nil))) pa_nil)))))
     pss_nil)
     (pss_cons (ps_if (PW.pt (pw_and (pt_cmpR (k_eq (K := K) rfl hr.units) (pv 5) pe_int (nomark _)) (pw_and1 (pt_cmpR (k_eq (K := K) rfl hr.units) (pe_ix (k_ix (K := K) rfl) (pv 4) pe_int (fun _ _ => rfl)) pe_str (nomark _)))))
     (pss_one (ps_ret (pe_op (k_add (K := K) rfl) (pe_slice (k_sl (K := K) rfl) (pv 4) po_none (po_some pe_int)) (pe_tup (pa_cons (pe_df D__law_other_number (hr.mono (by decide)) (by rfl) (pa_cons (pv 0) (pa_cons (pe_ix (k_ix (K := K) rfl) (pv 4) pe_int (fun _ _ => rfl)) pa_nil))) (pa_cons (pe_ix (k_ix (K := K) rfl) (pv 4) pe_int (fun _ _ => rfl)) pa_nil))))))
     pss_nil)
     (pss_cons (ps_if (PW.pt (pw_or (pt_cmpR (k_ne (K := K) rfl hr.units) (pe_ix (k_ix (K := K) rfl) (pv 4) pe_int (fun _ _ => rfl)) pe_str (nomark _)) (pw_or1 (pt_cmpR (k_eq (K := K) rfl hr.units) (pv 5) pe_int (nomark _)))))
     (pss_one (ps_ret (pe_op (k_add (K := K) rfl) (pe_op (k_add (K := K) rfl) (pe_slice (k_sl (K := K) rfl) (pv 4) po_none (po_some pe_int)) (pe_tup (pa_cons (pe_df D__law_other_number (hr.mono (by decide)) (by rfl) (pa_cons (pv 0) (pa_cons (pe_ix (k_ix (K := K) rfl) (pv 4) pe_int (fun _ _ => rfl)) pa_nil))) pa_nil))) (pe_slice (k_sl (K := K) rfl) (pv 4) (po_some pe_int) po_none))))
     pss_nil)
     (pss_cons (ps_set (i := 8) sc__law_spoilt.nd rfl (Or.inl rfl) (pe_df D__law_other_wrote (hr.mono (by decide)) (by rfl) (pa_cons (pv 0) (pa_cons (pe_ix (k_ix (K := K) rfl) (pv 4) pe_int (fun _ _ => rfl)) (pa_cons (pe_df D__law_due (hr.mono (by decide)) (by rfl) (pa_cons (pe_ix (k_ix (K := K) rfl) (pe_ix (k_ix (K := K) rfl) (pv 1) pe_int (fun _ _ => rfl)) (pe_dget hu (pv 3) pe_str (fun _ _ => rfl)) (fun _ _ => rfl)) (pa_cons (pv 3) pa_nil))) pa_nil)))))
     (pss_one (ps_ret (pe_tup (pa_cons pe_str (pa_cons (pe_ix (k_ix (K := K) rfl) (pv 4) pe_int (fun _ _ => rfl)) (pa_cons (pe_ix (k_ix (K := K) rfl) (pv 4) pe_int (fun _ _ => rfl)) (pa_cons (pv 8) pa_nil))))))))))))))), fun G J es g Φ h => ?_⟩
  · obtain ⟨a, b, gr, fold, cnt, bump, rfl, _⟩ := h
    rfl
  · obtain ⟨⟨m, tm, sd, e⟩, b, gr, fold, cnt, bump, rfl, B, ok, hc, h⟩ := h
    dsimp only at hc h ok
    walk_at "S"
    refine ws_start B ?_

    obtain ⟨hm, hs, he⟩ := ok
    have hn1 := hs.n1
    cases e
    case none =>
      walk_at "RB"
      refine ⟨sd, _, _, rfl, rfl, True.intro, by omega, fun d n2 n20 n21 hd => ?_⟩
      exact h _ _ (by omega) (by omega) hd
    case some e =>
      have hg := he e rfl
      walk_at "XB"
      rename_i pick p0 p1
      obtain rfl | rfl | rfl | rfl | rfl | rfl : pick = 0 ∨ pick = 1 ∨ pick = 2 ∨ pick = 3 ∨ pick = 4 ∨ pick = 5 := by omega
      · walk_at "RB"
        refine ⟨noRaw_ev _, ?_⟩
        rw [isN_ev]
        walk_at "RB"
        refine ⟨sd, _, _, rfl, rfl, True.intro, by omega, fun d n2 n20 n21 hd => ?_⟩
        exact h _ _ (by omega) (by omega) hd
      · have hev : ∃ nm b0 xs, evD e = .tup (.str nm :: .int b0 :: xs) ∧ xs.length ≤ 3 ∧ ∀ z, ∃ e', evD e' = .tup (.str nm :: .int z :: xs) := by
          cases e
          · exact ⟨_, _, _, rfl, by simp, fun z => ⟨.fin z _ _, rfl⟩⟩
          · exact ⟨_, _, _, rfl, by simp, fun z => ⟨.late z _ _, rfl⟩⟩
          · exact ⟨_, _, _, rfl, by simp, fun z => ⟨.down z _ _ _, rfl⟩⟩
          · exact ⟨_, _, _, rfl, by simp, fun z => ⟨.bell z _, rfl⟩⟩
        obtain ⟨nm, b0, xs, e1, e2, e3⟩ := hev
        have e4 : evO (some e) = .tup (.str nm :: .int b0 :: xs) := e1
        rw [e4]
        walk_at "RB"
        refine ⟨.int b0, atI_nat (j := 1) rfl, ?_⟩
        walk_at "RB"
        refine ⟨.int b0, atI_nat (j := 1) rfl, ?_⟩
        walk_at "RB"

        refine ⟨(), _, _, rfl, rfl, True.intro, by omega, ?_⟩
        rintro _ n2 _ _ ⟨fr, rfl, hfr⟩
        walk_at "RB"

        refine we_lcE (bump := bump) ?_
        refine wi_list ?_
        walk_at "RB"
        refine ⟨Ow, sd.owed, owD, _, 1, g, isI fun _ => True, rfl, by omega, rfl, fun x n _ n0 n1 => ?_, fun acc m2 hl hP m20 m21 => ?_⟩
        · walk_at "W"
          walk_at "RB"
          exact ⟨⟨_, rfl, trivial⟩, n + 1, by omega, by omega, rfl⟩
        obtain ⟨il, rfl, hil⟩ := all_map Dv.int hP
        rw [List.length_map] at hl
        refine ro_add_l (by rw [List.length_map, hl]; simp; omega) ?_
        walk_at "RB"
        have hbl : ∀ (u v : Int), ([Dv.int (sd.beat - 1), Dv.int u, Dv.int v] ++ List.map Dv.int il).length = 3 + sd.owed.length := fun u v => by
          rw [List.length_append, List.length_map, hl]
          rfl
        refine ⟨_, _, _, rfl, rfl, by rw [hbl]; omega, by omega, fun i i0 i1 => ?_⟩
        refine ro_ix_any ⟨i0, i1, fun d hd => ?_⟩
        obtain ⟨z, rfl⟩ : ∃ z, d = .int z := by
          rcases List.mem_append.mp hd with q | q
          · simp only [List.mem_cons, List.not_mem_nil, or_false] at q
            rcases q with rfl | rfl | rfl <;> exact ⟨_, rfl⟩
          · obtain ⟨x, _, rfl⟩ := List.mem_map.mp q
            exact ⟨x, rfl⟩
        walk_at "RB"
        have hc2 : cutD (Dv.str nm :: Dv.int b0 :: xs) (some 2) none = xs := cut_drop (i := 2) (by simp only [List.length_cons]; omega)
        rw [hc2]
        refine ro_add_t (by simp; omega) ?_
        obtain ⟨e', he'⟩ := e3 z
        exact h _ _ (by omega) (by omega) ⟨e', he'.symm⟩
      · cases e
        all_goals walk_at "RB"
        case fin be pl w =>
          refine ⟨_, at_rows hs.st.p0 (by have := hg.1; have := hs.st.p1; omega), ?_⟩
          walk_at "RB"
          refine ⟨row_ok hm hs.st.p0 (by have := hg.1; have := hs.st.p1; omega), hs.st.sp, hs.st.ce, hs.st.sw, ?_⟩
          walk_at "RB"
          refine ⟨(w, wroteBy sd.st.spots sd.st.cells (m.row sd.st.place)), _, _, rfl, rfl, hg.2, by omega, ?_⟩
          rintro _ n3 _ _ ⟨nu, rfl⟩
          walk_at "RB"
          exact h _ _ (by omega) (by omega) ⟨.fin _ _ _, rfl⟩

        all_goals refine ⟨_, _, _, rfl, rfl, True.intro, by omega, ?_⟩
        all_goals rintro _ n3 _ _ ⟨nu, rfl, _⟩
        all_goals walk_at "RB"
        all_goals repeat (refine ro_add_t (Nat.le_of_ble_eq_true rfl) ?_; walk_at "RB")
        all_goals first | exact h _ _ (by omega) (by omega) ⟨.fin _ _ _, rfl⟩ | exact h _ _ (by omega) (by omega) ⟨.late _ _ _, rfl⟩ | exact h _ _ (by omega) (by omega) ⟨.down _ _ _ _, rfl⟩ | exact h _ _ (by omega) (by omega) ⟨.bell _ _, rfl⟩
      · cases e
        all_goals walk_at "RB"
        case fin be pl w =>
          refine ⟨_, at_rows hs.st.p0 (by have := hg.1; have := hs.st.p1; omega), ?_⟩
          walk_at "RB"
          refine ⟨row_ok hm hs.st.p0 (by have := hg.1; have := hs.st.p1; omega), hs.st.sp, hs.st.ce, hs.st.sw, ?_⟩
          walk_at "RB"
          refine ⟨(w, wroteBy sd.st.spots sd.st.cells (m.row sd.st.place)), _, _, rfl, rfl, hg.2, by omega, ?_⟩
          rintro _ n3 _ _ ⟨nu, rfl⟩
          walk_at "RB"
          exact h _ _ (by omega) (by omega) ⟨.fin _ _ _, rfl⟩

        all_goals refine ⟨_, _, _, rfl, rfl, True.intro, by omega, ?_⟩
        all_goals rintro _ n3 _ _ ⟨nu, rfl, _⟩
        all_goals walk_at "RB"
        all_goals repeat (refine ro_add_t (Nat.le_of_ble_eq_true rfl) ?_; walk_at "RB")
        all_goals first | exact h _ _ (by omega) (by omega) ⟨.fin _ _ _, rfl⟩ | exact h _ _ (by omega) (by omega) ⟨.late _ _ _, rfl⟩ | exact h _ _ (by omega) (by omega) ⟨.down _ _ _ _, rfl⟩ | exact h _ _ (by omega) (by omega) ⟨.bell _ _, rfl⟩
      · cases e
        all_goals walk_at "RB"
        all_goals refine ⟨_, _, _, rfl, rfl, True.intro, by omega, ?_⟩
        all_goals rintro _ n3 _ _ ⟨nu, rfl, _⟩
        all_goals walk_at "RB"
        all_goals repeat (refine ro_add_t (Nat.le_of_ble_eq_true rfl) ?_; walk_at "RB")
        all_goals first | exact h _ _ (by omega) (by omega) ⟨.fin _ _ _, rfl⟩ | exact h _ _ (by omega) (by omega) ⟨.late _ _ _, rfl⟩ | exact h _ _ (by omega) (by omega) ⟨.down _ _ _ _, rfl⟩ | exact h _ _ (by omega) (by omega) ⟨.bell _ _, rfl⟩
      · cases e
        all_goals walk_at "RB"
        case fin be pl w =>
          refine ⟨_, at_rows hs.st.p0 (by have := hg.1; have := hs.st.p1; omega), ?_⟩
          walk_at "RB"
          refine ⟨row_ok hm hs.st.p0 (by have := hg.1; have := hs.st.p1; omega), hs.st.sp, hs.st.ce, hs.st.sw, ?_⟩
          walk_at "RB"
          refine ⟨(w, wroteBy sd.st.spots sd.st.cells (m.row sd.st.place)), _, _, rfl, rfl, hg.2, by omega, ?_⟩
          rintro _ n3 _ _ ⟨nu, rfl⟩
          walk_at "RB"
          exact h _ _ (by omega) (by omega) ⟨.fin _ _ _, rfl⟩

        all_goals refine ⟨_, _, _, rfl, rfl, True.intro, by omega, ?_⟩
        all_goals rintro _ n3 _ _ ⟨nu, rfl, _⟩
        all_goals walk_at "RB"
        all_goals repeat (refine ro_add_t (Nat.le_of_ble_eq_true rfl) ?_; walk_at "RB")
        all_goals first | exact h _ _ (by omega) (by omega) ⟨.fin _ _ _, rfl⟩ | exact h _ _ (by omega) (by omega) ⟨.late _ _ _, rfl⟩ | exact h _ _ (by omega) (by omega) ⟨.down _ _ _ _, rfl⟩ | exact h _ _ (by omega) (by omega) ⟨.bell _ _, rfl⟩
abbrev s__law_goes : Stmt := top 48
theorem sc__law_goes : FnScope ["row", "now", "wrote", "after"] ["row", "now"] (defScope s__law_goes) := ⟨rfl, rfl, rfl, by decide +kernel, rfl, by decide +kernel, by decide +kernel⟩
theorem df__law_goes (B : Bl mg) (D__law_due : Df P w K mg base "_law_due" 1 ["row", "now"] (spD S__law_due)) (F : FuD K mg "_law_goes" ["row", "now"] s__law_goes) : Df P w K mg base "_law_goes" 2 ["row", "now"] (spDN S__law_goes) := by
  refine F.okN (n := 1) sc__law_goes (fun G J a es g sd Φ h => ?_) fun f cdv A outer s H E hr => ⟨_, (have hu := hu_of hr; (pss_cons (ps_set (i := 2) sc__law_goes.nd rfl (Or.inl rfl) (pe_df D__law_due (hr.mono (by decide)) (by rfl) (pa_cons (pv 0) (pa_cons (pv 1) pa_nil))))
     (pss_cons (ps_set (i := 3) sc__law_goes.nd rfl (Or.inl rfl) (pe_op (k_add (K := K) rfl) (pe_dget hu (pv 1) pe_str (fun _ _ => rfl)) pe_int))
     (pss_cons (ps_if (PW.pt (pw_and (pt_cmpR (k_eq (K := K) rfl hr.units) (pe_ix (k_ix (K := K) rfl) (pv 0) pe_int (fun _ _ => rfl)) pe_str (nomark _)) (pw_and1 (pt_cmpR (k_ne (K := K) rfl hr.units) (pe_ix (k_ix (K := K) rfl) (pe_dget hu (pv 1) pe_str (fun _ _ => rfl)) (pe_ix (k_ix (K := K) rfl) (pv 0) pe_int (fun _ _ => rfl)) (fun _ _ => rfl)) pe_int (nomark _)))))
     (pss_one (ps_set (i := 3) sc__law_goes.nd rfl (Or.inl rfl) (pe_ix (k_ix (K := K) rfl) (pv 0) pe_int (fun _ _ => rfl))))
     pss_nil)
     (pss_cons (ps_if (pt_cmpR (k_eq (K := K) rfl hr.units) (pe_ix (k_ix (K := K) rfl) (pv 0) pe_int (fun _ _ => rfl)) pe_str (nomark _))
     (pss_cons (ps_if (pt_cmpR o_isnt (pe_dget hu (pv 1) pe_str (fun _ _ => rfl)) pe_non (nomark _))
     (pss_one (ps_set (i := 3) sc__law_goes.nd rfl (Or.inl rfl) (pe_dget hu (pv 1) pe_str (fun _ _ => rfl))))
     pss_nil)
     (pss_one (ps_dput hu (pv 1) pe_str pe_non rfl)))
     pss_nil)
     (pss_cons (ps_if (pt_cmpR (k_in (K := K) rfl) (pe_ix (k_ix (K := K) rfl) (pv 0) pe_int (fun _ _ => rfl)) (pe_tup (pa_cons pe_str (pa_cons pe_str (pa_cons pe_str pa_nil)))) (by rfl))
     (pss_one (ps_dput hu (pv 1) pe_str (pe_cmpR (k_eq (K := K) rfl hr.units) (pe_ix (k_ix (K := K) rfl) (pv 0) pe_int (fun _ _ => rfl)) pe_str (nomark _)) rfl))
     pss_nil)
     (pss_cons (ps_if (pt_cmpR o_isnt (pv 2) pe_non (nomark _))
     (pss_one (ps_asg (pe_ix (k_ix (K := K) rfl) (pv 2) pe_int (fun _ _ => rfl)) (pg_sub (pe_dget hu (pv 1) (pe_ix (k_ix (K := K) rfl) (pe_lst (pa_cons pe_str (pa_cons pe_str pa_nil))) (pe_callTy c_int (by rfl) B.int_ (by decide +kernel) (pa_cons (pe_cmpR (k_eq (K := K) rfl hr.units) (pe_ix (k_ix (K := K) rfl) (pv 2) pe_int (fun _ _ => rfl)) pe_str (nomark _)) pa_nil)) (fun _ _ => rfl)) (fun _ _ => rfl)) (pe_ix (k_ix (K := K) rfl) (pv 2) pe_int (fun _ _ => rfl)) set_list)))
     pss_nil)
     (pss_cons (ps_dput hu (pv 1) pe_str (pv 3) rfl)
     (pss_one (ps_ret (pv 2))))))))))), fun G J a es g sd Φ fr h => ?_⟩
  · obtain ⟨r, rfl, _⟩ := h
    rfl
  · obtain ⟨r, rfl, ho, hs, hc, hb, h⟩ := h
    walk_at "SN"
    refine wn_seq ?_
    refine wn_set fr ?_
    walk_at "RW"
    refine ⟨ho, hs, hc, hb, ?_⟩
    refine ⟨⟨1, tup_wr _⟩, ?_⟩
    cases r
    all_goals simp only [wroteBy]
    all_goals simp only [Row.ok] at ho
    case put d n =>
      walk_at "RW"
      refine ro_in_t rfl rfl ?_
      walk_at "RW"
      refine wn_item fr ?_
      walk_at "RW"
      refine .inl ⟨rfl, ?_⟩
      walk_at "RW"
      refine ⟨by omega, ?_⟩
      walk_at "RW"
      exact ⟨⟨1, tup_wr _⟩, h⟩

    case sum d x y =>
      walk_at "RW"
      refine ro_in_t rfl rfl ?_
      walk_at "RW"
      refine wn_item fr ?_
      walk_at "RW"
      refine .inl ⟨rfl, ?_⟩
      walk_at "RW"
      refine ⟨by omega, ?_⟩
      walk_at "RW"
      exact ⟨⟨1, tup_wr _⟩, h⟩

    case mul d x y =>
      walk_at "RW"
      refine ro_in_t rfl rfl ?_
      walk_at "RW"
      refine wn_item fr ?_
      walk_at "RW"
      refine .inl ⟨rfl, ?_⟩
      walk_at "RW"
      refine ⟨by omega, ?_⟩
      walk_at "RW"
      exact ⟨⟨1, tup_wr _⟩, h⟩

    case less d x y =>
      walk_at "RW"
      refine ro_in_t rfl rfl ?_
      walk_at "RW"
      refine wn_item fr ?_
      walk_at "RW"
      refine .inl ⟨rfl, ?_⟩
      walk_at "RW"
      refine ⟨by omega, ?_⟩
      walk_at "RW"
      exact ⟨⟨1, tup_wr _⟩, h⟩

    case take d x n =>
      walk_at "RW"
      refine ro_in_t rfl rfl ?_
      walk_at "RW"
      refine wn_item fr ?_
      walk_at "RW"
      refine .inl ⟨rfl, ?_⟩
      walk_at "RW"
      refine ⟨by omega, ?_⟩
      walk_at "RW"
      exact ⟨⟨1, tup_wr _⟩, h⟩

    case lay x y n =>
      walk_at "RW"
      refine ro_in_t rfl rfl ?_
      walk_at "RW"
      refine wn_item fr ?_
      walk_at "RW"
      refine .inr ⟨rfl, ?_⟩
      walk_at "RW"
      have := cellAt_lt sd.st.spots y n
      refine ⟨by omega, ?_⟩
      walk_at "RW"
      exact ⟨⟨1, tup_wr _⟩, h⟩
    case go x p =>
      walk_at "RW"
      refine ⟨fun e => ?_, fun e => ?_⟩
      · have e1 : sp sd.st.spots x ≠ 0 := by simpa using e
        walk_at "RW"
        refine ro_in_t rfl rfl ?_
        walk_at "RW"
        simp only [stepR, placeBehind, if_pos e1] at h
        exact h
      · have e1 : ¬ sp sd.st.spots x ≠ 0 := by simpa using e
        walk_at "RW"
        refine ro_in_t rfl rfl ?_
        walk_at "RW"
        simp only [stepR, placeBehind, if_neg e1] at h
        exact h
    case shut =>
      walk_at "RW"
      refine ro_in_t rfl rfl ?_
      walk_at "RW"
      rw [show decide (("shut" : Str) = "shut") = true from rfl]
      exact h
    case opn =>
      walk_at "RW"
      refine ro_in_t rfl rfl ?_
      walk_at "RW"
      rw [show decide (("open" : Str) = "shut") = false from rfl]
      exact h
    case home =>
      rcases sd with ⟨⟨pl, spo, ce, sh, kp⟩, be, cr, pr, ow, la, tk, en⟩
      cases kp
      all_goals walk_at "RW"
      all_goals refine ⟨_, _, sc_non, put_kept (i := none), ?_⟩
      all_goals walk_at "RW"
      all_goals refine ro_in_t rfl rfl ?_
      all_goals walk_at "RW"
      all_goals rw [show decide (("home" : Str) = "shut") = false from rfl]
      all_goals exact h
abbrev s__law_take_up : Stmt := top 53
theorem sc__law_take_up : FnScope ["mill", "rings", "now", "event", "pressed", "one", "wrote"] ["mill", "rings", "now", "event"] (defScope s__law_take_up) := ⟨rfl, rfl, rfl, by decide +kernel, rfl, by decide +kernel, by decide +kernel⟩
theorem df__law_take_up (B : Bl mg) (D__law_waits : Df P w K mg base "_law_waits" 1 ["rings", "now", "beat"] (spD S__law_waits)) (D__law_goes : Df P w K mg base "_law_goes" 2 ["row", "now"] (spDN S__law_goes)) (F : FuD K mg "_law_take_up" ["mill", "rings", "now", "event"] s__law_take_up) : Df P w K mg base "_law_take_up" 3 ["mill", "rings", "now", "event"] (spDN S__law_take_up) := by
  refine F.okN (n := 2) sc__law_take_up (fun G J a es g sd Φ h => ?_) fun f cdv A outer s H E hr => ⟨_, (have hu := hu_of hr; (pss_cons (ps_if (pt_cmpR o_gt (pe_ix (k_ix (K := K) rfl) (pv 3) pe_int (fun _ _ => rfl)) (pe_dget hu (pv 2) pe_str (fun _ _ => rfl)) (nomark _))
     (pss_one (ps_dput hu (pv 2) pe_str pe_int rfl))
     pss_nil)
     (pss_cons (ps_set (i := 4) sc__law_take_up.nd rfl (Or.inl rfl) (pe_and (pe_not (pe_dget hu (pv 2) pe_str (fun _ _ => rfl))) (pe_one (pe_cmpR (k_ne (K := K) rfl hr.units) (pe_df D__law_waits (hr.mono (by decide)) (by rfl) (pa_cons (pv 1) (pa_cons (pv 2) (pa_cons (pe_ix (k_ix (K := K) rfl) (pv 3) pe_int (fun _ _ => rfl)) pa_nil)))) (pe_lst pa_nil) (nomark _)))))
     (pss_cons (ps_dput hu (pv 2) pe_str (pe_ix (k_ix (K := K) rfl) (pv 3) pe_int (fun _ _ => rfl)) rfl)
     (pss_one (ps_if (pt_cmpR (k_eq (K := K) rfl hr.units) (pe_ix (k_ix (K := K) rfl) (pv 3) pe_int (fun _ _ => rfl)) pe_str (nomark _))
     (pss_one (ps_dput hu (pv 2) pe_str (pe_lc (own := [("one", 5)]) (g := gName 5) (by rfl) sc__law_take_up.nd (k_list (K := K) rfl (pe_dget hu (pv 2) pe_str (fun _ _ => rfl))) (blkOk_by (own := [("one", 5)]) (N := ["mill", "rings", "now", "event", "pressed", "one", "wrote"]) (sc := defScope s__law_take_up) (by decide +kernel)) (fun _ _ _ _ _ => pg_name (i := 5) sc__law_take_up.nd rfl (Or.inl rfl)) (fun _ _ _ _ _ => pts_one (pt_cmpR (k_ne (K := K) rfl hr.units) (pe_ix (k_ix (K := K) rfl) (pv 5) pe_int (fun _ _ => rfl)) (pe_ix (k_ix (K := K) rfl) (pv 3) pe_int (fun _ _ => rfl)) (nomark _))) (fun _ _ _ _ _ => (pv 5))) rfl))
     (pss_one (ps_if (pt_cmpR (k_eq (K := K) rfl hr.units) (pe_ix (k_ix (K := K) rfl) (pv 3) pe_int (fun _ _ => rfl)) pe_str (nomark _))
     (pss_one (ps_dput hu (pv 2) pe_str (pe_slice (k_sl (K := K) rfl) (pe_dget hu (pv 2) pe_str (fun _ _ => rfl)) (po_some pe_int) po_none) rfl))
     (pss_one (ps_if (pt_cmpR (k_eq (K := K) rfl hr.units) (pe_ix (k_ix (K := K) rfl) (pv 3) pe_int (fun _ _ => rfl)) pe_str (nomark _))
     (pss_cons (ps_expr (k_bm (K := K) rfl PySem.F.plainAttrs_list PySem.F.slot_list_append PySem.F.type_list_append mt_append (pe_dget hu (pv 2) pe_str (fun _ _ => rfl)) (pa_cons (pe_ix (k_ix (K := K) rfl) (pv 3) pe_int (fun _ _ => rfl)) pa_nil)))
     (pss_cons (ps_dput hu (pv 2) pe_str (pe_dget hu (pv 2) pe_str (fun _ _ => rfl)) rfl)
     (pss_cons (ps_dput hu (pv 2) pe_str (pe_ix (k_ix (K := K) rfl) (pe_ix (k_ix (K := K) rfl) (pv 0) pe_int (fun _ _ => rfl)) (pe_ix (k_ix (K := K) rfl) (pv 3) pe_int (fun _ _ => rfl)) (fun _ _ => rfl)) rfl)
     (pss_cons (ps_dput hu (pv 2) pe_str pe_bl rfl)
     (pss_one (ps_dput hu (pv 2) pe_str pe_int rfl))))))
     (pss_cons (ps_dput hu (pv 2) pe_str (pe_op o_mul (pe_op (k_add (K := K) rfl) (pe_dget hu (pv 2) pe_str (fun _ _ => rfl)) pe_int) (pe_callTy c_int (by rfl) B.int_ (by decide +kernel) (pa_cons (pv 4) pa_nil))) rfl)
     (pss_cons (ps_dput hu (pv 2) pe_str (pe_op (k_add (K := K) rfl) (pe_dget hu (pv 2) pe_str (fun _ _ => rfl)) pe_int) rfl)
     (pss_cons (ps_set (i := 6) sc__law_take_up.nd rfl (Or.inl rfl) (pe_df D__law_goes (hr.mono (by decide)) (by rfl) (pa_cons (pe_ix (k_ix (K := K) rfl) (pe_ix (k_ix (K := K) rfl) (pv 0) pe_int (fun _ _ => rfl)) (pe_dget hu (pv 2) pe_str (fun _ _ => rfl)) (fun _ _ => rfl)) (pa_cons (pv 2) pa_nil))))
     (pss_cons (ps_if (PW.pt (pw_and (pt_cmpR o_isnt (pv 6) pe_non (nomark _)) (pw_and1 (pt_cmpR o_is (pe_ix (k_ix (K := K) rfl) (pe_ix (k_ix (K := K) rfl) (pv 3) pe_int (fun _ _ => rfl)) pe_int (fun _ _ => rfl)) pe_non (nomark _)))))
     (pss_one (ps_expr (k_bm (K := K) rfl PySem.F.plainAttrs_list PySem.F.slot_list_append PySem.F.type_list_append mt_append (pe_dget hu (pv 2) pe_str (fun _ _ => rfl)) (pa_cons (pe_tup (pa_cons (pe_dget hu (pv 2) pe_str (fun _ _ => rfl)) (pa_cons (pe_ix (k_ix (K := K) rfl) (pv 6) pe_int (fun _ _ => rfl)) (pa_cons (pe_ix (k_ix (K := K) rfl) (pv 6) pe_int (fun _ _ => rfl)) (pa_cons (pe_ix (k_ix (K := K) rfl) (pv 3) pe_int (fun _ _ => rfl)) pa_nil))))) pa_nil))))
     (pss_one (ps_if (PW.pt (pw_and (pt_cmpR o_isnt (pv 6) pe_non (nomark _)) (pw_and1 (pt_cmpR (k_eq (K := K) rfl hr.units) (pe_ix (k_ix (K := K) rfl) (pv 6) pe_int (fun _ _ => rfl)) pe_str (nomark _)))))
     (pss_one (ps_expr (k_bm (K := K) rfl PySem.F.plainAttrs_list PySem.F.slot_list_append PySem.F.type_list_append mt_append (pe_dget hu (pv 2) pe_str (fun _ _ => rfl)) (pa_cons (pe_tup (pa_cons (pe_dget hu (pv 2) pe_str (fun _ _ => rfl)) (pa_cons (pe_ix (k_ix (K := K) rfl) (pv 6) pe_int (fun _ _ => rfl)) (pa_cons (pe_ix (k_ix (K := K) rfl) (pv 6) pe_int (fun _ _ => rfl)) pa_nil)))) pa_nil))))
     pss_nil)))
     (pss_one (ps_dput hu (pv 2) pe_str (pe_op (k_add (K := K) rfl) (pe_dget hu (pv 2) pe_str (fun _ _ => rfl)) pe_int) rfl)))))))))))))))), fun G J a es g sd Φ fr h => ?_⟩
  · obtain ⟨m, rs, e, rfl, _⟩ := h
    rfl
  · obtain ⟨m, rs, e, rfl, hm, hr, hs, hf, h⟩ := h
    walk_at "SN"
    rcases sd with ⟨⟨pl, spo, ce, sh, kp⟩, be, cr, pr, ow, la, tk, en⟩
    have ht : tk.length ≤ 1000 := hs.n3
    have ho : ow.length ≤ 1000 := hs.n1
    have hl : la.length ≤ 1000 := hs.n2
    cases e
    case late b n x =>
      refine wn_seq ?_
      refine wn_mid (fun ds' g' sd' => ds' = [some (millD m), some (ringsD rs), some (.raw (.ref a)), some (evD (.late b n x)), none, none, none] ∧ g' = g ∧ sd' = ⟨⟨pl, spo, ce, sh, kp⟩, be, (if be < b then 0 else cr), pr, ow, la, tk, en⟩) ?_ ?_
      · walk_at "RW"
        refine ⟨fun z => ?_, fun z => ?_⟩
        · walk_at "RW"
          rw [if_pos (of_decide_eq_true z)]
        · walk_at "RW"
          rw [if_neg (of_decide_eq_false z)]
      rintro ds' g' sd' ⟨rfl, rfl, rfl⟩
      simp only [takenUp, Ev.beat] at h
      refine wn_seq ?_
      refine wn_set fr ?_
      refine we_known (.bl (pressed rs ⟨⟨pl, spo, ce, sh, kp⟩, be, cr, pr, ow, la, tk, en⟩ b)) ?_ ⟨⟨0, rfl⟩, ?_⟩
      · walk_at "RW"
        simp only [pressed]
        cases sh
        · walk_at "RW"
          refine ⟨m, rs, _, b, rfl, hr, ht, ?_⟩
          walk_at "RW"
          refine ro_ne_nilL 0 (by decide) (ok_ints 0 _) ?_
          refine ⟨?_, rfl⟩
          cases waits rs tk b <;> rfl
        · walk_at "RW"
          first | exact ⟨rfl, rfl⟩ | trivial
      walk_at "RW"

      refine wf_lcX tg_name ?_
      refine wi_list ?_
      walk_at "RW"
      refine ⟨Ow, ow, owD, fun o => decide (o.n ≠ n), owD, rfl, by omega, fun o ho => ?_, ?_⟩
      · refine ⟨_, rfl, ?_⟩
        walk_at "W"
        walk_at "RW"
        refine ⟨fun e => ?_, fun e => ⟨?_, rfl⟩⟩
        · walk_at "RW"
          refine ⟨?_, rfl, rfl⟩
          simpa using e
        · simpa using e
      · exact ⟨_, rfl, h⟩
    case down b n i x =>
      refine wn_seq ?_
      refine wn_mid (fun ds' g' sd' => ds' = [some (millD m), some (ringsD rs), some (.raw (.ref a)), some (evD (.down b n i x)), none, none, none] ∧ g' = g ∧ sd' = ⟨⟨pl, spo, ce, sh, kp⟩, be, (if be < b then 0 else cr), pr, ow, la, tk, en⟩) ?_ ?_
      · walk_at "RW"
        refine ⟨fun z => ?_, fun z => ?_⟩
        · walk_at "RW"
          rw [if_pos (of_decide_eq_true z)]
        · walk_at "RW"
          rw [if_neg (of_decide_eq_false z)]
      rintro ds' g' sd' ⟨rfl, rfl, rfl⟩
      simp only [takenUp, Ev.beat] at h
      refine wn_seq ?_
      refine wn_set fr ?_
      refine we_known (.bl (pressed rs ⟨⟨pl, spo, ce, sh, kp⟩, be, cr, pr, ow, la, tk, en⟩ b)) ?_ ⟨⟨0, rfl⟩, ?_⟩
      · walk_at "RW"
        simp only [pressed]
        cases sh
        · walk_at "RW"
          refine ⟨m, rs, _, b, rfl, hr, ht, ?_⟩
          walk_at "RW"
          refine ro_ne_nilL 0 (by decide) (ok_ints 0 _) ?_
          refine ⟨?_, rfl⟩
          cases waits rs tk b <;> rfl
        · walk_at "RW"
          first | exact ⟨rfl, rfl⟩ | trivial
      walk_at "RW"

      refine wf_sl ?_
      walk_at "RW"
      exact ⟨la.drop 1, by rw [cut_drop1, List.map_drop], h⟩
    case bell b k =>
      refine wn_seq ?_
      refine wn_mid (fun ds' g' sd' => ds' = [some (millD m), some (ringsD rs), some (.raw (.ref a)), some (evD (.bell b k)), none, none, none] ∧ g' = g ∧ sd' = ⟨⟨pl, spo, ce, sh, kp⟩, be, (if be < b then 0 else cr), pr, ow, la, tk, en⟩) ?_ ?_
      · walk_at "RW"
        refine ⟨fun z => ?_, fun z => ?_⟩
        · walk_at "RW"
          rw [if_pos (of_decide_eq_true z)]
        · walk_at "RW"
          rw [if_neg (of_decide_eq_false z)]
      rintro ds' g' sd' ⟨rfl, rfl, rfl⟩
      simp only [takenUp, Ev.beat] at h
      refine wn_seq ?_
      refine wn_set fr ?_
      refine we_known (.bl (pressed rs ⟨⟨pl, spo, ce, sh, kp⟩, be, cr, pr, ow, la, tk, en⟩ b)) ?_ ⟨⟨0, rfl⟩, ?_⟩
      · walk_at "RW"
        simp only [pressed]
        cases sh
        · walk_at "RW"
          refine ⟨m, rs, _, b, rfl, hr, ht, ?_⟩
          walk_at "RW"
          refine ro_ne_nilL 0 (by decide) (ok_ints 0 _) ?_
          refine ⟨?_, rfl⟩
          cases waits rs tk b <;> rfl
        · walk_at "RW"
          first | exact ⟨rfl, rfl⟩ | trivial
      walk_at "RW"

      have kb := waits_mem hr hf.1
      refine wn_app_took fr (by show tk.length ≤ 50000; omega) ?_
      walk_at "RW"
      refine ⟨_, _, sc_int, put_kept (i := some pl), ?_⟩
      walk_at "RW"
      refine ⟨_, at_intsI kb.1 kb.2, rfl, _, _, sc_int, put_place, ?_⟩
      walk_at "RW"
      exact h
    case fin b p x =>
      refine wn_seq ?_
      refine wn_mid (fun ds' g' sd' => ds' = [some (millD m), some (ringsD rs), some (.raw (.ref a)), some (evD (.fin b p x)), none, none, none] ∧ g' = g ∧ sd' = ⟨⟨pl, spo, ce, sh, kp⟩, be, (if be < b then 0 else cr), pr, ow, la, tk, en⟩) ?_ ?_
      · walk_at "RW"
        refine ⟨fun z => ?_, fun z => ?_⟩
        · walk_at "RW"
          rw [if_pos (of_decide_eq_true z)]
        · walk_at "RW"
          rw [if_neg (of_decide_eq_false z)]
      rintro ds' g' sd' ⟨rfl, rfl, rfl⟩
      simp only [takenUp, Ev.beat] at h
      refine wn_seq ?_
      refine wn_set fr ?_
      refine we_known (.bl (pressed rs ⟨⟨pl, spo, ce, sh, kp⟩, be, cr, pr, ow, la, tk, en⟩ b)) ?_ ⟨⟨0, rfl⟩, ?_⟩
      · walk_at "RW"
        simp only [pressed]
        cases sh
        · walk_at "RW"
          refine ⟨m, rs, _, b, rfl, hr, ht, ?_⟩
          walk_at "RW"
          refine ro_ne_nilL 0 (by decide) (ok_ints 0 _) ?_
          refine ⟨?_, rfl⟩
          cases waits rs tk b <;> rfl
        · walk_at "RW"
          first | exact ⟨rfl, rfl⟩ | trivial
      walk_at "RW"

      refine ro_mul_r (by cases pressed rs ⟨⟨pl, spo, ce, sh, kp⟩, be, cr, pr, ow, la, tk, en⟩ b <;> decide) ?_
      walk_at "RW"
      have hp : 0 ≤ pl ∧ pl < m.rows.length := ⟨hs.st.p0, by
        have h1 := hs.st.p1
        have h2 := hf.1
        simp only at h1 h2
        omega⟩
      refine ⟨_, at_rows hp.1 hp.2, ?_⟩
      refine ⟨⟨1, tup_row _⟩, m.row pl, rfl, row_ok hm hp.1 hp.2, hs.st.sp, hs.st.ce, hs.st.sw, ?_⟩
      have hy : (step m ⟨pl, spo, ce, sh, kp⟩).2 = wroteBy spo ce (m.row pl) := rfl
      have hf2 := hf.2
      simp only [hy] at h hf2
      simp only []
      generalize wroteBy spo ce (m.row pl) = y at h hf2 ⊢
      generalize pressed rs ⟨⟨pl, spo, ce, sh, kp⟩, be, cr, pr, ow, la, tk, en⟩ b = pp at h ⊢
      have hmu : (pr + 1) * (if pp = true then 1 else 0) = if pp = true then pr + 1 else 0 := by split <;> omega
      rw [hmu]
      cases y
      case no =>
        have hx := hf2.mp rfl
        subst hx
        walk_at "RW"
        exact h
      case spot d w =>
        cases x
        case no => exact absurd (hf2.mpr rfl) (fun z => nomatch z)
        case spot e v =>
          cases v
          · walk_at "RW"
            refine wn_app_owed fr (by show ow.length ≤ 50000; omega) ?_
            walk_at "RW"
            refine ⟨⟨en, _, _, b⟩, rfl, ?_⟩
            walk_at "RW"
            exact h
          · walk_at "RW"
            exact h
        case cell e v =>
          cases v
          · walk_at "RW"
            refine wn_app_owed fr (by show ow.length ≤ 50000; omega) ?_
            walk_at "RW"
            refine ⟨⟨en, _, _, b⟩, rfl, ?_⟩
            walk_at "RW"
            exact h
          · walk_at "RW"
            exact h
      case cell d w =>
        cases x
        case no => exact absurd (hf2.mpr rfl) (fun z => nomatch z)
        case spot e v =>
          cases v
          · walk_at "RW"
            refine wn_app_owed fr (by show ow.length ≤ 50000; omega) ?_
            walk_at "RW"
            refine ⟨⟨en, _, _, b⟩, rfl, ?_⟩
            walk_at "RW"
            exact h
          · walk_at "RW"
            refine wn_app_laid fr (by show la.length ≤ 50000; omega) ?_
            walk_at "RW"
            refine ⟨⟨en, _, _⟩, rfl, ?_⟩
            walk_at "RW"
            exact h
        case cell e v =>
          cases v
          · walk_at "RW"
            refine wn_app_owed fr (by show ow.length ≤ 50000; omega) ?_
            walk_at "RW"
            refine ⟨⟨en, _, _, b⟩, rfl, ?_⟩
            walk_at "RW"
            exact h
          · walk_at "RW"
            refine wn_app_laid fr (by show la.length ≤ 50000; omega) ?_
            walk_at "RW"
            refine ⟨⟨en, _, _⟩, rfl, ?_⟩
            walk_at "RW"
            exact h
abbrev s__law_tale : Stmt := top 60
theorem sc__law_tale : FnScope ["bag", "mill", "rings", "terms", "now", "base", "at", "diary", "turn", "event", "cause"] ["bag", "mill", "rings", "terms", "now", "base"] (defScope s__law_tale) := ⟨rfl, rfl, rfl, by decide +kernel, rfl, by decide +kernel, by decide +kernel⟩
theorem df__law_tale (B : Bl mg) (D__law_draw : Df P w K mg base "_law_draw" 1 ["bag", "many"] (spD S__law_draw)) (D__law_some : Df P w K mg base "_law_some" 4 ["bag", "mill", "rings", "terms", "now", "base"] (spD S__law_some)) (D__law_spoilt : Df P w K mg base "_law_spoilt" 5 ["bag", "mill", "terms", "now", "event"] (spD S__law_spoilt)) (D__law_cause : Df P w K mg base "_law_cause" 3 ["mill", "rings", "terms", "now", "event"] (spD S__law_cause)) (D__law_wild : Df P w K mg base "_law_wild" 3 ["bag", "now"] (spD S__law_wild)) (D__law_take_up : Df P w K mg base "_law_take_up" 3 ["mill", "rings", "now", "event"] (spDN S__law_take_up)) (F : FuD K mg "_law_tale" ["bag", "mill", "rings", "terms", "now", "base"] s__law_tale) : Df P w K mg base "_law_tale" 6 ["bag", "mill", "rings", "terms", "now", "base"] (spDN S__law_tale) := by
  refine F.okN (n := 5) sc__law_tale (fun G J a es g sd Φ h => ?_) fun f cdv A outer s H E hr => ⟨_, (have hu := hu_of hr; (pss_cons (ps_set (i := 6) sc__law_tale.nd rfl (Or.inl rfl) (pe_ix (k_ix (K := K) rfl) (pe_lst (pa_cons (pe_df D__law_draw (hr.mono (by decide)) (by rfl) (pa_cons (pv 0) (pa_cons pe_int pa_nil))) (pa_cons (pe_df D__law_draw (hr.mono (by decide)) (by rfl) (pa_cons (pv 0) (pa_cons pe_int pa_nil))) (pa_cons pe_int pa_nil)))) (pe_df D__law_draw (hr.mono (by decide)) (by rfl) (pa_cons (pv 0) (pa_cons pe_int pa_nil))) (fun _ _ => rfl)))
     (pss_cons (ps_set (i := 7) sc__law_tale.nd rfl (Or.inl rfl) (pe_lst pa_nil))
     (pss_cons (ps_for PassesOwn.never rfl (pi_range1 (by rfl) B.range_ (pa_cons (pe_op (k_add (K := K) rfl) pe_int (pe_df D__law_draw (hr.mono (by decide)) (by rfl) (pa_cons (pv 0) (pa_cons (pe_ix (k_ix (K := K) rfl) (pe_lst (pa_cons pe_int (pa_cons pe_int pa_nil))) (pe_df D__law_draw (hr.mono (by decide)) (by rfl) (pa_cons (pv 0) (pa_cons pe_int pa_nil))) (fun _ _ => rfl)) pa_nil)))) pa_nil)) (pg_name (i := 8) sc__law_tale.nd rfl (Or.inl rfl))
     (pss_cons (ps_set (i := 9) sc__law_tale.nd rfl (Or.inl rfl) (pe_df D__law_some (hr.mono (by decide)) (by rfl) (pa_cons (pv 0) (pa_cons (pv 1) (pa_cons (pv 2) (pa_cons (pv 3) (pa_cons (pv 4) (pa_cons (pv 5) pa_nil))))))))
     (pss_cons (ps_if (pt_cmpR o_ge (pv 8) (pv 6) (nomark _))
     (pss_one (ps_set (i := 9) sc__law_tale.nd rfl (Or.inl rfl) (pe_df D__law_spoilt (hr.mono (by decide)) (by rfl) (pa_cons (pv 0) (pa_cons (pv 1) (pa_cons (pv 3) (pa_cons (pv 4) (pa_cons (pv 9) pa_nil))))))))
     pss_nil)
     (pss_cons (ps_if (pt_cmpR o_is (pv 9) pe_non (nomark _))
     (pss_one (ps_ret (pe_tup (pa_cons (pv 7) (pa_cons pe_non pa_nil)))))
     pss_nil)
     (pss_cons (ps_set (i := 10) sc__law_tale.nd rfl (Or.inl rfl) (pe_df D__law_cause (hr.mono (by decide)) (by rfl) (pa_cons (pv 1) (pa_cons (pv 2) (pa_cons (pv 3) (pa_cons (pv 4) (pa_cons (pv 9) pa_nil)))))))
     (pss_cons (ps_expr (k_bm (K := K) rfl PySem.F.plainAttrs_list PySem.F.slot_list_append PySem.F.type_list_append mt_append (pv 7) (pa_cons (pv 9) pa_nil)))
     (pss_cons (ps_if (pt_cmpR o_isnt (pv 10) pe_non (nomark _))
     (pss_one (ps_ret (pe_tup (pa_cons (pe_op (k_add (K := K) rfl) (pv 7) (pe_lst (pa_cons (pe_df D__law_wild (hr.mono (by decide)) (by rfl) (pa_cons (pv 0) (pa_cons (pv 4) pa_nil))) (pa_cons (pe_df D__law_wild (hr.mono (by decide)) (by rfl) (pa_cons (pv 0) (pa_cons (pv 4) pa_nil))) pa_nil)))) (pa_cons (pe_tup (pa_cons (pe_op o_sub (pe_callB (k_len (K := K) rfl) (by rfl) B.len_ PySem.boot_len (pa_cons (pv 7) pa_nil)) pe_int) (pa_cons (pv 10) pa_nil))) pa_nil)))))
     pss_nil)
     (pss_one (ps_expr (pe_df D__law_take_up (hr.mono (by decide)) (by rfl) (pa_cons (pv 1) (pa_cons (pv 2) (pa_cons (pv 4) (pa_cons (pv 9) pa_nil))))))))))))))
     (pss_one (ps_ret (pe_tup (pa_cons (pv 7) (pa_cons pe_non pa_nil))))))))), fun G J a es g sd Φ fr h => ?_⟩
  · obtain ⟨b, gr, fold, cnt, bump, m, rs, tm, base, B, rfl, _⟩ := h
    rfl
  · obtain ⟨b, gr, fold, cnt, bump, m, rs, tm, base, B, rfl, hm, hr, hs, hc, h⟩ := h
    walk_at "SN"
    have hg := B.c3 g
    refine wn_seq ?_
    refine wn_set fr ?_
    rw [← hg]
    walk_at "RB"
    rename_i y y0 y1
    refine ex_any ⟨y0, by simpa using y1, fun d hd => ?_⟩
    obtain ⟨at', rfl⟩ : ∃ z, d = .int z := by
      simp only [List.mem_cons, List.not_mem_nil, or_false] at hd
      rcases hd with rfl | rfl | rfl <;> exact ⟨_, rfl⟩
    refine ⟨⟨0, rfl⟩, ?_⟩
    refine wn_newT fun p np => ?_
    have frT := fr.withT (p := p)
    refine wn_seq ?_
    refine wn_for frT ?_
    walk_at "RT"
    rename_i i i0 i1
    refine ex_ints [12, 40] ⟨i0, by simpa using i1, fun mx hmx => ?_⟩
    have hmx2 : 12 ≤ mx ∧ mx ≤ 40 := (by decide : ∀ d ∈ ([12, 40] : List Int), 12 ≤ d ∧ d ≤ 40) mx hmx
    walk_at "RT"
    rename_i t t0 t1
    obtain ⟨t, rfl⟩ := Int.eq_ofNat_of_zero_le t0
    refine ⟨1 + t, rfl, by omega, fun i ds2 g2 sd2 => ∃ (evs : List Ev) (n : Nat) (s8 s9 s10 : Option Dv), ds2 = [some (.raw (.ref b)), some (millD m), some (ringsD rs), some (tmD tm), some (.raw (.ref a)), some (.int base), some (.int at'), some (.raw (.ref p)), s8, s9, s10] ∧
      g2 = (bump g n, evs.map evD) ∧ evs.length = i ∧ SdB m i sd2 ∧ (∀ rest, part m rs tm 0 sd (evs ++ rest) = part m rs tm i sd2 rest) ∧ cnt g ≤ n ∧ n ≤ cnt g + 10 + i * 2000, ⟨[], _, none, none, none, rfl, rfl, rfl, hs, fun _ => rfl, by omega, by omega⟩, ?_, ?_⟩
    · rintro i ds2 g2 sd2 hi ⟨evs, n, s8, s9, s10, rfl, rfl, hl, hb, hp, n0, n1⟩
      simp only [List.set_cons_zero, List.set_cons_succ]
      have hok := hb.ok (by omega)
      refine wn_seq ?_
      refine wn_set frT ?_
      walk_at "RT"
      refine ⟨(m, rs, tm, sd2, base), _, _, _, rfl, rfl, ⟨hm, hr, hok⟩, by omega, ?_⟩
      rintro _ n2 n20 n21 ⟨e, rfl, he⟩
      refine ⟨⟨2, tup_evO e⟩, ?_⟩
      refine wn_seq ?_
      refine wn_mid (fun ds' g' sd' => ∃ (e : Option Ev) (n3 : Nat), ds' = [some (.raw (.ref b)), some (millD m), some (ringsD rs), some (tmD tm), some (.raw (.ref a)), some (.int base), some (.int at'), some (.raw (.ref p)), some (.int (i : Int)), some (evO e), s10] ∧
        g' = (bump g n3, evs.map evD) ∧ sd' = sd2 ∧ n2 ≤ n3 ∧ n3 ≤ n2 + 1200) ?_ ?_
      · refine wn_if frT ?_
        walk_at "RT"
        refine ⟨fun q => ?_, fun q => ?_⟩
        · refine wn_set frT ?_
          walk_at "RT"
          refine ⟨(m, tm, sd2, e), _, _, _, rfl, rfl, ⟨hm, hok, he⟩, by omega, ?_⟩
          rintro _ n3 n30 n31 ⟨e', rfl⟩
          exact ⟨⟨2, tup_ok _⟩, some e', n3, rfl, rfl, rfl, by omega, by omega⟩
        · exact wn_next ⟨e, n2, rfl, rfl, rfl, by omega, by omega⟩
      rintro ds' g' sd' ⟨e, n3, rfl, rfl, rfl, n30, n31⟩
      cases e with
      | none =>
        walk_at "RT"
        refine ⟨⟨1, rfl⟩, _, fz_two, ?_⟩
        have q := hp []
        rw [List.append_nil] at q
        have q2 := h evs (by omega) (bump g n3) sd'
        rw [q] at q2
        exact q2
      | some e =>
        walk_at "RT"
        refine ⟨noRaw_ev _, ?_⟩
        rw [isN_ev]
        walk_at "RT"
        refine ⟨m, rs, tm, _, e, rfl, hm, hr, hok, ?_⟩
        refine ⟨⟨0, tup_cause _⟩, ?_⟩
        refine wn_seq ?_
        refine wn_drop frT ?_
        refine we_appendT np ?_
        walk_at "RT"
        refine ⟨by show (evs.map evD).length ≤ 50000; rw [List.length_map]; omega, tup_ok3 e, ?_⟩
        cases hca : causeOf m rs tm sd' e with
        | none =>
          walk_at "RT"
          refine wn_call4 frT ?_
          refine ⟨m, rs, e, rfl, hm, hr, hok, fits_of hca, ?_⟩
          refine ⟨evs ++ [e], n3, _, _, _, rfl, by rw [List.map_append]; rfl, by rw [List.length_append, hl]; rfl, taken_ok hm hr hb (fits_of hca), fun rest => ?_, by omega, by omega⟩
          rw [List.append_assoc, List.singleton_append, hp, part_none hca]
          rfl
        | some c =>
          refine wn_seq ?_
          refine wn_if frT ?_
          refine wt_known true ?_ ⟨fun _ => ?_, fun z => nomatch z⟩
          · walk_at "RT"
            first | rfl | exact ⟨rfl, rfl⟩
          refine wn_retPair frT ?_
          refine wf_addT ?_
          walk_at "RT"
          refine ⟨sd', _, _, _, rfl, rfl, True.intro, by omega, ?_⟩
          rintro _ n4 n40 n41 ⟨w1, rfl⟩
          walk_at "RT"
          refine ⟨sd', _, _, _, rfl, rfl, True.intro, by omega, ?_⟩
          rintro _ n5 n50 n51 ⟨w2, rfl⟩
          walk_at "RT"
          have exs : (evs.map evD ++ [evD e]) ++ [evD w1, evD w2] = (evs ++ [e, w1, w2]).map evD := by simp
          refine ⟨by simp only [List.length_append, List.length_map, List.length_cons, List.length_nil]; omega, ?_, ?_⟩
          · show ((evs.map evD ++ [evD e]) ++ [evD w1, evD w2]).all (tupO 3) = true
            rw [exs, List.all_map, List.all_eq_true]
            exact fun x _ => tup_ok3 x
          walk_at "RT"
          refine rc_len_T ?_
          walk_at "RT"
          refine ⟨_, fz_id, ?_⟩
          have elen : (((evs.map evD ++ [evD e]).length : Nat) : Int) - 1 = i := by
            simp only [List.length_append, List.length_map, List.length_cons, List.length_nil]
            omega
          have q := h (evs ++ [e, w1, w2]) (by simp only [List.length_append, List.length_cons, List.length_nil]; omega) (bump g n5) sd'
          rw [hp, part_cause hca, ← exs, ← elen] at q
          exact q
    · rintro ds2 g2 sd2 ⟨evs, n, s8, s9, s10, rfl, rfl, hl, hb, hp, n0, n1⟩
      walk_at "RT"
      refine ⟨⟨1, rfl⟩, _, fz_two, ?_⟩
      have q := hp []
      rw [List.append_nil] at q
      have q2 := h evs (by omega) (bump g n) sd2
      rw [q] at q2
      exact q2
abbrev s_first_stand : Stmt := top 24
theorem sc_first_stand : FnScope ["state"] ["state"] (defScope s_first_stand) := ⟨rfl, rfl, rfl, by decide +kernel, rfl, by decide +kernel, by decide +kernel⟩
theorem df_first_stand (B : Bl mg) (F : FuD K mg "first_stand" ["state"] s_first_stand) : Df P w K mg base "first_stand" 1 ["state"] (spD S_first_stand) := by
  refine F.ok (n := 0) sc_first_stand (fun G J es g Φ h => ?_) fun f cdv A outer s H E hr => ⟨_, (have hu := hu_of hr; (pss_one (ps_ret (pe_tup (pa_cons (pv 0) (pa_cons pe_int (pa_cons pe_int (pa_cons pe_int (pa_cons (pe_tupZ pa_nil) (pa_cons (pe_tupZ pa_nil) (pa_cons (pe_tupZ pa_nil) (pa_cons pe_int pa_nil)))))))))))), fun G J es g Φ h => ?_⟩
  · obtain ⟨s, rfl, _⟩ := h
    rfl
  · obtain ⟨s, rfl, h⟩ := h
    walk_at "S"
    walk_at "R"
    refine we_tupZt ?_
    walk_at "R"
    refine we_tupZt ?_
    walk_at "R"
    refine we_tupZ ?_
    walk_at "R"
    exact h
abbrev s_Holder___init__ : Stmt := inClass (top 35) 0
theorem sc_Holder___init__ : FnScope ["self", "mill", "state", "rings", "terms"] ["self", "mill", "state", "rings", "terms"] (defScope s_Holder___init__) := ⟨rfl, rfl, rfl, by decide +kernel, rfl, by decide +kernel, by decide +kernel⟩
theorem df_Holder_init {C : Addr} (B : Bl mg) (T : HTx K C) (D_first_stand : Df P w K mg base "first_stand" 1 ["state"] (spD S_first_stand)) {fI : Addr} (M : Mk K C fI) {fd : FuncData} (F : Fun K "__init__" "Holder.__init__" s_Holder___init__ fI fd) (b : Binds K fd ["self", "mill", "state", "rings", "terms"] []) : Mki P w K mg base C 2 ["self", "mill", "state", "rings", "terms"] (spInit C) := by
  refine ⟨fI, fd, F.ok sc_Holder___init__ (fun vs H Q E h => ?_) (fun cdv A outer s H vs Q E hr h => ?_), M, b⟩
  · obtain ⟨G, J, F0, g, x, dx, m, st, rs, tm, vm, vst, vr, vt, rfl, _⟩ := h
    rfl
  · obtain ⟨G, J, F0, g, x, dx, m, st, rs, tm, vm, vst, vr, vt, rfl, o, fx, nx, hx, d1, d2, d3, d4, q⟩ := h
    refine ⟨_, (have hu := hu_of hr; (pss_cons (k_sfld (K := K) rfl (pv 0) (pv 1) rfl)
     (pss_cons (k_sfld (K := K) rfl (pv 0) (pe_callTy (k_lst (K := K) rfl) (by rfl) B.list_ (by decide +kernel) (pa_cons (pv 3) pa_nil)) rfl)
     (pss_cons (k_sfld (K := K) rfl (pv 0) (pv 4) rfl)
     (pss_cons (k_sfld (K := K) rfl (pv 0) (pe_df D_first_stand (hr.mono (by decide)) (by rfl) (pa_cons (pv 2) pa_nil)) rfl)
     (pss_cons (k_sfld (K := K) rfl (pv 0) pe_int rfl)
     (pss_one (k_sfld (K := K) rfl (pv 0) pe_non rfl)))))))), ?_⟩
    have d3' := d3
    cases d3 with
    | @lst ra ws _ hra dra =>
    refine ⟨_, rfl, _, rfl, x, C, dx, _, rfl, hx, T.cl, T.mill_, by show 0 < 1000; decide, ?_⟩
    have o1 := o.put0 (o := .ins C dx (putF "mill" vm [])) fx nx
    refine ⟨_, rfl, ra, ws, rfl, .inl (.inl (.inl (o1.ex _ _ hra))), fun p hp => ?_⟩
    have hpx : x ≠ p := fun z => by rw [← z, upd_same] at hp; cases hp
    have fp := o1.fnone hp
    have o2 := o1.alloc (o := .lst ws) hp
    have sp1 : Same F0 (upd F0 p (.lst ws)) := fun a u ha => by rw [upd_ne (ne_of_none ha fp)]; exact ha
    have fx2 : upd F0 p (.lst ws) x = none := by rw [upd_ne hpx]; exact fx
    refine ⟨_, rfl, x, C, dx, _, rfl, by rw [upd_ne hpx, upd_same], T.cl, T.rings_, by show 1 < 1000; decide, ?_⟩
    have o3 := o2.put0 (o := .ins C dx (putF "rings" (.ref p) (putF "mill" vm []))) fx2 nx
    refine ⟨_, rfl, _, rfl, x, C, dx, _, rfl, upd_same, T.cl, T.terms_, by show 2 < 1000; decide, ?_⟩
    have o4 := o3.put0 (o := .ins C dx (putF "terms" vt (putF "rings" (.ref p) (putF "mill" vm [])))) fx2 nx
    refine ⟨_, rfl, ?_⟩
    show spD S_first_stand [vst] _ _ E0
    refine ⟨G, J, upd F0 p (.lst ws), g, [sttD st], fun d g' => d = sdD (firstStand st) ∧ g' = g, o4, .cons (d2.mono sp1) .nil, ⟨st, rfl, rfl, rfl⟩, ?_⟩
    rintro vs d F5 H5 g5 ⟨rfl, rfl⟩ o5 t5 d5
    have hx5 := t5.h x _ upd_same nx
    have fx5 : F5 x = none := t5.n x (by rw [upd_same]; exact fun z => nomatch z) fx2
    have s5 : Same F0 F5 := sp1.trans t5.f
    refine ⟨_, rfl, x, C, dx, _, rfl, hx5, T.cl, T.stand_, by show 3 < 1000; decide, ?_⟩
    have o6 := o5.put0 (o := .ins C dx (putF "stand" vs (putF "terms" vt (putF "rings" (.ref p) (putF "mill" vm []))))) fx5 nx
    refine ⟨_, rfl, x, C, dx, _, rfl, upd_same, T.cl, T.many_, by show 4 < 1000; decide, ?_⟩
    have o7 := o6.put0 (o := .ins C dx (putF "many" (.int 0) (putF "stand" vs (putF "terms" vt (putF "rings" (.ref p) (putF "mill" vm [])))))) fx5 nx
    refine ⟨_, rfl, x, C, dx, _, rfl, upd_same, T.cl, T.cause_, by show 5 < 1000; decide, ?_⟩
    rw [hp_init]
    have o8 := o7.put0 (o := .ins C dx (hF vm (.ref p) vt vs 0 none)) fx5 nx
    have hp0 : H p = none := (upd_none hp).2
    have hn : ∀ a, H a ≠ none → a ≠ x → upd (upd (upd (upd H x (.ins C dx (putF "mill" vm []))) p (.lst ws)) x (.ins C dx (putF "rings" (.ref p) (putF "mill" vm [])))) x (.ins C dx (putF "terms" vt (putF "rings" (.ref p) (putF "mill" vm [])))) a = H a := fun a ha ax => by
      have ap : a ≠ p := fun z => ha (by rw [z]; exact hp0)
      rw [upd_ne ax, upd_ne ax, upd_ne ap, upd_ne ax]
    refine q F5 _ ⟨o8.ex, fun m hm => ?_, o8.c, dx, vm, .ref p, vt, vs, upd_same, d1.mono s5, .lst (t5.f p _ upd_same) (dra.mono s5), d4.mono s5, d5⟩ ⟨s5, fun a u ha hm => ?_, fun a ha hf => ?_, fun a ha => ?_⟩
    · cases hm with
      | head => exact ⟨fx5, by rw [upd_same]; exact fun z => nomatch z⟩
      | tail _ hm => exact o8.mu m hm
    · have ax : a ≠ x := fun z => hm (by rw [z]; exact .head _)
      rw [upd_ne ax, upd_ne ax, upd_ne ax]
      refine t5.h a u ?_ fun z => hm (.tail _ z)
      rw [hn a (by rw [ha]; exact fun z => nomatch z) ax]
      exact ha
    · by_cases ax : a = x
      · rw [ax]
        exact fx5
      · have ap : a ≠ p := fun z => ha (by rw [z]; exact hp0)
        refine t5.n a (by rw [hn a ha ax]; exact ha) ?_
        rw [upd_ne ap]
        exact hf
    · by_cases ax : a = x
      · rw [ax, upd_same]
        exact fun z => nomatch z
      · rw [upd_ne ax, upd_ne ax, upd_ne ax]
        refine t5.k a ?_
        rw [hn a ha ax]
        exact ha
abbrev s_rests : Stmt := top 14
theorem sc_rests : FnScope ["mill", "state"] ["mill", "state"] (defScope s_rests) := ⟨rfl, rfl, rfl, by decide +kernel, rfl, by decide +kernel, by decide +kernel⟩
theorem df_rests (B : Bl mg) (F : FuD K mg "rests" ["mill", "state"] s_rests) : Df P w K mg base "rests" 1 ["mill", "state"] (spD S_rests) := by
  refine F.ok (n := 0) sc_rests (fun G J es g Φ h => ?_) fun f cdv A outer s H E hr => ⟨_, (have hu := hu_of hr; (pss_one (ps_ret (pe_cmpR (k_eq (K := K) rfl hr.units) (pe_ix (k_ix (K := K) rfl) (pv 1) pe_int (fun _ _ => rfl)) (pe_callB (k_len (K := K) rfl) (by rfl) B.len_ PySem.boot_len (pa_cons (pe_ix (k_ix (K := K) rfl) (pv 0) pe_int (fun _ _ => rfl)) pa_nil)) (nomark _))))), fun G J es g Φ h => ?_⟩
  · obtain ⟨m, s, rfl, _⟩ := h
    rfl
  · obtain ⟨m, s, rfl, h⟩ := h
    walk_at "S"
    walk_at "R"
    simpa using h
abbrev s_waiting : Stmt := top 25
theorem sc_waiting : FnScope ["rings", "took", "beat", "at", "k", "rung"] ["rings", "took", "beat"] (defScope s_waiting) := ⟨rfl, rfl, rfl, by decide +kernel, rfl, by decide +kernel, by decide +kernel⟩
theorem df_waiting (B : Bl mg) (F : FuD K mg "waiting" ["rings", "took", "beat"] s_waiting) : Df P w K mg base "waiting" 1 ["rings", "took", "beat"] (spD S_waiting) := by
  refine F.ok (n := 0) sc_waiting (fun G J es g Φ h => ?_) fun f cdv A outer s H E hr => ⟨_, (have hu := hu_of hr; (pss_cons (ps_set (i := 5) sc_waiting.nd rfl (Or.inr rfl) (pe_lc (own := [("at", 3), ("k", 4)]) (g := gTup K 2 (gCons (gName 3) (gCons (gName 4) gNil))) (by rfl) sc_waiting.nd (k_list (K := K) rfl (pv 0)) (blkOk_by (own := [("at", 3), ("k", 4)]) (N := ["rings", "took", "beat", "at", "k", "rung"]) (sc := defScope s_waiting) (by decide +kernel)) (fun _ _ _ _ _ => k_tg (K := K) (n := 2) rfl rfl (pgs_cons (pg_name (i := 3) sc_waiting.nd rfl (Or.inl rfl)) (pgs_cons (pg_name (i := 4) sc_waiting.nd rfl (Or.inl rfl)) pgs_nil))) (fun _ _ _ _ _ => pts_one (pt_cmpR o_le (pv 3) (pv 2) (nomark _))) (fun _ _ _ _ _ => (pv 4))))
     (pss_one (ps_ret (pe_lc (own := [("k", 4)]) (g := gName 4) (by rfl) sc_waiting.nd (k_list (K := K) rfl (pe_callB (k_sorted (w := w) rfl rfl) (by rfl) B.sorted_ (by decide +kernel) (pa_cons (pe_callTy (k_setL (K := K) (w := w) rfl rfl rfl) (by rfl) B.set_ (by decide +kernel) (pa_cons (pv 5) pa_nil)) pa_nil))) (blkOk_by (own := [("k", 4)]) (N := ["rings", "took", "beat", "at", "k", "rung"]) (sc := defScope s_waiting) (by decide +kernel)) (fun _ _ _ _ _ => pg_name (i := 4) sc_waiting.nd rfl (Or.inl rfl)) (fun _ _ _ _ _ => pts_one (pt_cmpR o_gt (k_bm (K := K) rfl PySem.F.plainAttrs_list PySem.F.slot_list_count PySem.F.type_list_count (k_lcount (K := K) rfl) (pv 5) (pa_cons (pv 4) pa_nil)) (pe_bmZ PySem.F.slot_tuple_count PySem.F.type_tuple_count (k_tcount (K := K) rfl) (pv 1) (pa_cons (pv 4) pa_nil)) (nomark _))) (fun _ _ _ _ _ => (pv 4))))))), fun G J es g Φ h => ?_⟩
  · obtain ⟨m, rs, took, beat, rfl, _⟩ := h
    rfl
  · obtain ⟨m, rs, took, beat, rfl, hm, hr, h⟩ := h
    walk_at "S"
    walk_at "R"
    refine we_lcM rs riD (fun r => decide (r.1 ≤ beat)) (fun r => .int r.2) (tg_two (by decide)) ?_
    refine wi_list ?_
    walk_at "R"
    refine ⟨by have := hr.len; omega, fun r hr2 => ?_, ?_⟩
    · refine ⟨_, rfl, ?_⟩
      walk_at "W"
      refine wt_test ?_
      walk_at "R"
      refine ⟨fun e => ?_, fun e => ⟨e, rfl⟩⟩
      walk_at "R"
      exact ⟨e, rfl, rfl⟩
    · have e1 : (rs.filter fun r => decide (r.1 ≤ beat)).map (fun r => Dv.int r.2) = intsD (rungBy rs beat) := by
        unfold rungBy intsD
        rw [List.map_map]
        rfl
      rw [e1]
      walk_at "R"
      refine we_lcX tg_name ?_
      refine wi_list ?_
      refine we_sortset ?_
      walk_at "R"
      have hl : (rungBy rs beat).length ≤ rs.length := by
        unfold rungBy
        rw [List.length_map]
        exact List.length_filter_le _ _
      refine ⟨by have := hr.len; omega, fun out hs hmem => ?_⟩
      refine ⟨_, rfl, ?_⟩
      refine ⟨Int, out, Dv.int, fun k => decide (took.count k < (rungBy rs beat).count k), Dv.int, rfl, ?_, fun k hk => ?_, ?_⟩
      · exact out_len hr hm.nb hs hmem
      · refine ⟨_, rfl, ?_⟩
        walk_at "W"
        refine wt_test ?_
        walk_at "R"
        refine we_cntL ?_
        walk_at "R"
        refine we_cntZ ?_
        walk_at "R"
        refine ⟨fun e => ?_, fun e => ⟨?_, rfl⟩⟩
        · walk_at "R"
          exact ⟨by simpa using e, rfl, rfl⟩
        · simpa using e
      · have e2 := waits_eq hr hm.nb hs hmem (took := took)
        rw [e2]
        exact h
abbrev s_is_pressed : Stmt := top 26
theorem sc_is_pressed : FnScope ["rings", "stand", "beat"] ["rings", "stand", "beat"] (defScope s_is_pressed) := ⟨rfl, rfl, rfl, by decide +kernel, rfl, by decide +kernel, by decide +kernel⟩
theorem df_is_pressed (B : Bl mg) (D_waiting : Df P w K mg base "waiting" 1 ["rings", "took", "beat"] (spD S_waiting)) (F : FuD K mg "is_pressed" ["rings", "stand", "beat"] s_is_pressed) : Df P w K mg base "is_pressed" 2 ["rings", "stand", "beat"] (spD S_is_pressed) := by
  refine F.ok (n := 1) sc_is_pressed (fun G J es g Φ h => ?_) fun f cdv A outer s H E hr => ⟨_, (have hu := hu_of hr; (pss_one (ps_ret (pe_and (pe_not (pe_ix (k_ix (K := K) rfl) (pe_ix (k_ix (K := K) rfl) (pv 1) pe_int (fun _ _ => rfl)) pe_int (fun _ _ => rfl))) (pe_one (pe_cmpR (k_ne (K := K) rfl hr.units) (pe_df D_waiting (hr.mono (by decide)) (by rfl) (pa_cons (pv 0) (pa_cons (pe_ix (k_ix (K := K) rfl) (pv 1) pe_int (fun _ _ => rfl)) (pa_cons (pv 2) pa_nil)))) (pe_lst pa_nil) (nomark _))))))), fun G J es g Φ h => ?_⟩
  · obtain ⟨m, rs, sd, beat, rfl, _⟩ := h
    rfl
  · obtain ⟨m, rs, ⟨⟨p, sp, ce, sh, kp⟩, be, cr, pr, ow, la, tk, en⟩, beat, rfl, hm, hr, h⟩ := h
    walk_at "S"
    walk_at "R"
    refine ⟨fun e => ?_, fun e => ?_⟩
    · have e' : sh = false := by simpa using e
      subst e'
      walk_at "R"
      refine ⟨m, rs, tk, beat, rfl, hm, hr, ?_⟩
      walk_at "R"
      refine ro_ne_nilL 0 (by decide) (ok_ints _ _) ?_
      simpa [pressed] using h
    · have e' : sh = true := by simpa using e
      subst e'
      walk_at "R"
      exact h
abbrev s_spots_read : Stmt := top 9
theorem sc_spots_read : FnScope ["row", "word", "found"] ["row"] (defScope s_spots_read) := ⟨rfl, rfl, rfl, by decide +kernel, rfl, by decide +kernel, by decide +kernel⟩
theorem df_spots_read (B : Bl mg) (F : FuD K mg "spots_read" ["row"] s_spots_read) : Df P w K mg base "spots_read" 1 ["row"] (spD S_spots_read) := by
  refine F.ok (n := 0) sc_spots_read (fun G J es g Φ h => ?_) fun f cdv A outer s H E hr => ⟨_, (have hu := hu_of hr; (pss_cons (ps_set (i := 1) sc_spots_read.nd rfl (Or.inl rfl) (pe_ix (k_ix (K := K) rfl) (pv 0) pe_int (fun _ _ => rfl)))
     (pss_cons (ps_set (i := 2) sc_spots_read.nd rfl (Or.inl rfl) (pe_lst pa_nil))
     (pss_cons (ps_if (PW.pt (pw_or (pt_cmpR (k_eq (K := K) rfl hr.units) (pv 1) pe_str (nomark _)) (pw_or (pt_cmpR (k_eq (K := K) rfl hr.units) (pv 1) pe_str (nomark _)) (pw_or1 (pt_cmpR (k_eq (K := K) rfl hr.units) (pv 1) pe_str (nomark _))))))
     (pss_one (ps_set (i := 2) sc_spots_read.nd rfl (Or.inl rfl) (pe_lst (pa_cons (pe_ix (k_ix (K := K) rfl) (pv 0) pe_int (fun _ _ => rfl)) (pa_cons (pe_ix (k_ix (K := K) rfl) (pv 0) pe_int (fun _ _ => rfl)) pa_nil)))))
     (pss_one (ps_if (pt_cmpR (k_eq (K := K) rfl hr.units) (pv 1) pe_str (nomark _))
     (pss_one (ps_set (i := 2) sc_spots_read.nd rfl (Or.inl rfl) (pe_lst (pa_cons (pe_ix (k_ix (K := K) rfl) (pv 0) pe_int (fun _ _ => rfl)) (pa_cons (pe_ix (k_ix (K := K) rfl) (pv 0) pe_int (fun _ _ => rfl)) pa_nil)))))
     (pss_one (ps_if (pt_cmpR (k_eq (K := K) rfl hr.units) (pv 1) pe_str (nomark _))
     (pss_one (ps_set (i := 2) sc_spots_read.nd rfl (Or.inl rfl) (pe_lst (pa_cons (pe_ix (k_ix (K := K) rfl) (pv 0) pe_int (fun _ _ => rfl)) pa_nil))))
     (pss_one (ps_if (pt_cmpR (k_eq (K := K) rfl hr.units) (pv 1) pe_str (nomark _))
     (pss_one (ps_set (i := 2) sc_spots_read.nd rfl (Or.inl rfl) (pe_lst (pa_cons (pe_ix (k_ix (K := K) rfl) (pv 0) pe_int (fun _ _ => rfl)) pa_nil))))
     pss_nil)))))))
     (pss_cons (ps_if (PW.pt (pw_and (pt_cmpR (k_eq (K := K) rfl hr.units) (pe_callB (k_len (K := K) rfl) (by rfl) B.len_ PySem.boot_len (pa_cons (pv 2) pa_nil)) pe_int (nomark _)) (pw_and1 (pt_cmpR (k_eq (K := K) rfl hr.units) (pe_ix (k_ix (K := K) rfl) (pv 2) pe_int (fun _ _ => rfl)) (pe_ix (k_ix (K := K) rfl) (pv 2) pe_int (fun _ _ => rfl)) (nomark _)))))
     (pss_one (ps_ret (pe_lst (pa_cons (pe_ix (k_ix (K := K) rfl) (pv 2) pe_int (fun _ _ => rfl)) pa_nil))))
     pss_nil)
     (pss_one (ps_ret (pv 2)))))))), fun G J es g Φ h => ?_⟩
  · obtain ⟨r, rfl, _⟩ := h
    rfl
  · obtain ⟨r, rfl, h⟩ := h
    walk_at "S"
    cases r
    all_goals walk_at "R"
    all_goals first
      | exact h
      | (refine ⟨fun e => ?_, fun e => ?_⟩
         · have e' := of_decide_eq_true e
           have e2 : _ = _ := Int.ofNat.inj e'
           walk_at "R"
           simpa [reads, e2] using h
         · have e' := of_decide_eq_false e
           have e2 : ¬ _ = _ := fun z => e' (congrArg Int.ofNat z)
           walk_at "R"
           simpa [reads, e2] using h)
abbrev s_spot_written : Stmt := top 10
theorem sc_spot_written : FnScope ["row", "word"] ["row"] (defScope s_spot_written) := ⟨rfl, rfl, rfl, by decide +kernel, rfl, by decide +kernel, by decide +kernel⟩
theorem df_spot_written (B : Bl mg) (F : FuD K mg "spot_written" ["row"] s_spot_written) : Df P w K mg base "spot_written" 1 ["row"] (spD S_spot_written) := by
  refine F.ok (n := 0) sc_spot_written (fun G J es g Φ h => ?_) fun f cdv A outer s H E hr => ⟨_, (have hu := hu_of hr; (pss_cons (ps_set (i := 1) sc_spot_written.nd rfl (Or.inl rfl) (pe_ix (k_ix (K := K) rfl) (pv 0) pe_int (fun _ _ => rfl)))
     (pss_cons (ps_if (PW.pt (pw_or (pt_cmpR (k_eq (K := K) rfl hr.units) (pv 1) pe_str (nomark _)) (pw_or (pt_cmpR (k_eq (K := K) rfl hr.units) (pv 1) pe_str (nomark _)) (pw_or (pt_cmpR (k_eq (K := K) rfl hr.units) (pv 1) pe_str (nomark _)) (pw_or (pt_cmpR (k_eq (K := K) rfl hr.units) (pv 1) pe_str (nomark _)) (pw_or1 (pt_cmpR (k_eq (K := K) rfl hr.units) (pv 1) pe_str (nomark _))))))))
     (pss_one (ps_ret (pe_ix (k_ix (K := K) rfl) (pv 0) pe_int (fun _ _ => rfl))))
     pss_nil)
     (pss_one (ps_ret pe_non))))), fun G J es g Φ h => ?_⟩
  · obtain ⟨r, rfl, _⟩ := h
    rfl
  · obtain ⟨r, rfl, h⟩ := h
    walk_at "S"
    cases r
    all_goals walk_at "R"
    all_goals exact h
abbrev s_cell_at : Stmt := top 15
theorem sc_cell_at : FnScope ["spots", "a", "n"] ["spots", "a", "n"] (defScope s_cell_at) := ⟨rfl, rfl, rfl, by decide +kernel, rfl, by decide +kernel, by decide +kernel⟩
theorem df_cell_at (B : Bl mg) (T : Cs mg) (F : FuD K mg "cell_at" ["spots", "a", "n"] s_cell_at) : Df P w K mg base "cell_at" 1 ["spots", "a", "n"] (spD S_cell_at) := by
  refine F.ok (n := 0) sc_cell_at (fun G J es g Φ h => ?_) fun f cdv A outer s H E hr => ⟨_, (have hu := hu_of hr; (pss_one (ps_ret (pe_op o_mod (pe_op (k_add (K := K) rfl) (pe_ix (k_ix (K := K) rfl) (pv 0) (pv 1) (fun _ _ => rfl)) (pv 2)) (pe_const T.CELLS rfl))))), fun G J es g Φ h => ?_⟩
  · obtain ⟨sp, a, n, rfl, _⟩ := h
    rfl
  · obtain ⟨sp, a, n, rfl, ha, h⟩ := h
    walk_at "S"
    walk_at "R"
    have h' : Φ (.int (cellAt sp a n : Int)) g := h
    rw [cellAt_int] at h'
    exact h'
abbrev s_wrapped : Stmt := top 13
theorem sc_wrapped : FnScope ["number"] ["number"] (defScope s_wrapped) := ⟨rfl, rfl, rfl, by decide +kernel, rfl, by decide +kernel, by decide +kernel⟩
theorem df_wrapped (B : Bl mg) (T : Cs mg) (F : FuD K mg "wrapped" ["number"] s_wrapped) : Df P w K mg base "wrapped" 1 ["number"] (spD S_wrapped) := by
  refine F.ok (n := 0) sc_wrapped (fun G J es g Φ h => ?_) fun f cdv A outer s H E hr => ⟨_, (have hu := hu_of hr; (pss_one (ps_ret (pe_op o_mod (pv 0) (pe_const T.WORTHS rfl))))), fun G J es g Φ h => ?_⟩
  · obtain ⟨r, rfl, _⟩ := h
    rfl
  · obtain ⟨r, rfl, h⟩ := h
    walk_at "S"
    walk_at "R"
    exact h
abbrev s_worth_by : Stmt := top 17
theorem sc_worth_by : FnScope ["row", "spots", "cells", "one", "other"] ["row", "spots", "cells"] (defScope s_worth_by) := ⟨rfl, rfl, rfl, by decide +kernel, rfl, by decide +kernel, by decide +kernel⟩
theorem df_worth_by (B : Bl mg) (D_cell_at : Df P w K mg base "cell_at" 1 ["spots", "a", "n"] (spD S_cell_at)) (D_wrapped : Df P w K mg base "wrapped" 1 ["number"] (spD S_wrapped)) (F : FuD K mg "worth_by" ["row", "spots", "cells"] s_worth_by) : Df P w K mg base "worth_by" 2 ["row", "spots", "cells"] (spD S_worth_by) := by
  refine F.ok (n := 1) sc_worth_by (fun G J es g Φ h => ?_) fun f cdv A outer s H E hr => ⟨_, (have hu := hu_of hr; (pss_cons (ps_if (pt_cmpR (k_eq (K := K) rfl hr.units) (pe_ix (k_ix (K := K) rfl) (pv 0) pe_int (fun _ _ => rfl)) pe_str (nomark _))
     (pss_one (ps_ret (pe_ix (k_ix (K := K) rfl) (pv 0) pe_int (fun _ _ => rfl))))
     pss_nil)
     (pss_cons (ps_if (pt_cmpR (k_eq (K := K) rfl hr.units) (pe_ix (k_ix (K := K) rfl) (pv 0) pe_int (fun _ _ => rfl)) pe_str (nomark _))
     (pss_one (ps_ret (pe_ix (k_ix (K := K) rfl) (pv 2) (pe_df D_cell_at (hr.mono (by decide)) (by rfl) (pa_cons (pv 1) (pa_cons (pe_ix (k_ix (K := K) rfl) (pv 0) pe_int (fun _ _ => rfl)) (pa_cons (pe_ix (k_ix (K := K) rfl) (pv 0) pe_int (fun _ _ => rfl)) pa_nil)))) (fun _ _ => rfl))))
     pss_nil)
     (pss_cons (ps_set (i := 3) sc_worth_by.nd rfl (Or.inl rfl) (pe_ix (k_ix (K := K) rfl) (pv 1) (pe_ix (k_ix (K := K) rfl) (pv 0) pe_int (fun _ _ => rfl)) (fun _ _ => rfl)))
     (pss_cons (ps_set (i := 4) sc_worth_by.nd rfl (Or.inl rfl) (pe_ix (k_ix (K := K) rfl) (pv 1) (pe_ix (k_ix (K := K) rfl) (pv 0) pe_int (fun _ _ => rfl)) (fun _ _ => rfl)))
     (pss_cons (ps_if (pt_cmpR (k_eq (K := K) rfl hr.units) (pe_ix (k_ix (K := K) rfl) (pv 0) pe_int (fun _ _ => rfl)) pe_str (nomark _))
     (pss_one (ps_ret (pe_df D_wrapped (hr.mono (by decide)) (by rfl) (pa_cons (pe_op (k_add (K := K) rfl) (pv 3) (pv 4)) pa_nil))))
     pss_nil)
     (pss_cons (ps_if (pt_cmpR (k_eq (K := K) rfl hr.units) (pe_ix (k_ix (K := K) rfl) (pv 0) pe_int (fun _ _ => rfl)) pe_str (nomark _))
     (pss_one (ps_ret (pe_df D_wrapped (hr.mono (by decide)) (by rfl) (pa_cons (pe_op o_mul (pv 3) (pv 4)) pa_nil))))
     pss_nil)
     (pss_one (ps_ret (pe_callTy c_int (by rfl) B.int_ (by decide +kernel) (pa_cons (pe_cmpR o_lt (pv 3) (pv 4) (nomark _)) pa_nil))))))))))), fun G J es g Φ h => ?_⟩
  · obtain ⟨r, sp, ce, d, x, rfl, _⟩ := h
    rfl
  · obtain ⟨r, sp, ce, d, x, rfl, ho, hs, hc, hb, hw, h⟩ := h
    walk_at "S"
    cases r
    all_goals first | (simp [wroteBy] at hw; done) | skip
    all_goals obtain ⟨rfl, rfl⟩ := Wr.spot.inj hw
    all_goals simp only [Row.ok] at ho
    all_goals walk_at "R"
    case put => exact h
    case sum => exact h
    case mul d a b =>
      have b1 := sp_bd hb (show a < sp.length by omega)
      refine ro_mul_l ⟨by omega, by omega⟩ ?_
      walk_at "R"
      exact h
    case less => simpa using h
    case take d a n =>
      have c1 := cellAt_lt sp a n
      refine ⟨by omega, ?_⟩
      walk_at "R"
      exact h
abbrev s_wrote_by : Stmt := top 18
theorem sc_wrote_by : FnScope ["row", "spots", "cells", "word"] ["row", "spots", "cells"] (defScope s_wrote_by) := ⟨rfl, rfl, rfl, by decide +kernel, rfl, by decide +kernel, by decide +kernel⟩
theorem df_wrote_by (B : Bl mg) (D_cell_at : Df P w K mg base "cell_at" 1 ["spots", "a", "n"] (spD S_cell_at)) (D_worth_by : Df P w K mg base "worth_by" 2 ["row", "spots", "cells"] (spD S_worth_by)) (F : FuD K mg "wrote_by" ["row", "spots", "cells"] s_wrote_by) : Df P w K mg base "wrote_by" 3 ["row", "spots", "cells"] (spD S_wrote_by) := by
  refine F.ok (n := 2) sc_wrote_by (fun G J es g Φ h => ?_) fun f cdv A outer s H E hr => ⟨_, (have hu := hu_of hr; (pss_cons (ps_set (i := 3) sc_wrote_by.nd rfl (Or.inl rfl) (pe_ix (k_ix (K := K) rfl) (pv 0) pe_int (fun _ _ => rfl)))
     (pss_cons (ps_if (pt_cmpR (k_eq (K := K) rfl hr.units) (pv 3) pe_str (nomark _))
     (pss_one (ps_ret (pe_tup (pa_cons pe_str (pa_cons (pe_df D_cell_at (hr.mono (by decide)) (by rfl) (pa_cons (pv 1) (pa_cons (pe_ix (k_ix (K := K) rfl) (pv 0) pe_int (fun _ _ => rfl)) (pa_cons (pe_ix (k_ix (K := K) rfl) (pv 0) pe_int (fun _ _ => rfl)) pa_nil)))) (pa_cons (pe_ix (k_ix (K := K) rfl) (pv 1) (pe_ix (k_ix (K := K) rfl) (pv 0) pe_int (fun _ _ => rfl)) (fun _ _ => rfl)) pa_nil))))))
     pss_nil)
     (pss_cons (ps_if (PW.pt (pw_or (pt_cmpR (k_eq (K := K) rfl hr.units) (pv 3) pe_str (nomark _)) (pw_or (pt_cmpR (k_eq (K := K) rfl hr.units) (pv 3) pe_str (nomark _)) (pw_or (pt_cmpR (k_eq (K := K) rfl hr.units) (pv 3) pe_str (nomark _)) (pw_or1 (pt_cmpR (k_eq (K := K) rfl hr.units) (pv 3) pe_str (nomark _)))))))
     (pss_one (ps_ret pe_non))
     pss_nil)
     (pss_one (ps_ret (pe_tup (pa_cons pe_str (pa_cons (pe_ix (k_ix (K := K) rfl) (pv 0) pe_int (fun _ _ => rfl)) (pa_cons (pe_df D_worth_by (hr.mono (by decide)) (by rfl) (pa_cons (pv 0) (pa_cons (pv 1) (pa_cons (pv 2) pa_nil)))) pa_nil)))))))))), fun G J es g Φ h => ?_⟩
  · obtain ⟨r, sp, ce, rfl, _⟩ := h
    rfl
  · obtain ⟨r, sp, ce, rfl, ho, hs, hc, hb, h⟩ := h
    walk_at "S"
    cases r
    case lay b a n =>
      simp only [Row.ok] at ho
      walk_at "R"
      refine ⟨by omega, ?_⟩
      walk_at "R"
      exact h
    all_goals walk_at "R"
    all_goals first
      | exact h
      | (refine ⟨_, _, _, _, _, rfl, ho, hs, hc, hb, rfl, ?_⟩
         walk_at "R"
         exact h)
abbrev s_place_behind : Stmt := top 19
theorem sc_place_behind : FnScope ["row", "place", "spots", "kept"] ["row", "place", "spots", "kept"] (defScope s_place_behind) := ⟨rfl, rfl, rfl, by decide +kernel, rfl, by decide +kernel, by decide +kernel⟩
theorem df_place_behind (B : Bl mg) (F : FuD K mg "place_behind" ["row", "place", "spots", "kept"] s_place_behind) : Df P w K mg base "place_behind" 1 ["row", "place", "spots", "kept"] (spD S_place_behind) := by
  refine F.ok (n := 0) sc_place_behind (fun G J es g Φ h => ?_) fun f cdv A outer s H E hr => ⟨_, (have hu := hu_of hr; (pss_cons (ps_if (PW.pt (pw_and (pt_cmpR (k_eq (K := K) rfl hr.units) (pe_ix (k_ix (K := K) rfl) (pv 0) pe_int (fun _ _ => rfl)) pe_str (nomark _)) (pw_and1 (pt_cmpR (k_ne (K := K) rfl hr.units) (pe_ix (k_ix (K := K) rfl) (pv 2) (pe_ix (k_ix (K := K) rfl) (pv 0) pe_int (fun _ _ => rfl)) (fun _ _ => rfl)) pe_int (nomark _)))))
     (pss_one (ps_ret (pe_ix (k_ix (K := K) rfl) (pv 0) pe_int (fun _ _ => rfl))))
     pss_nil)
     (pss_cons (ps_if (PW.pt (pw_and (pt_cmpR (k_eq (K := K) rfl hr.units) (pe_ix (k_ix (K := K) rfl) (pv 0) pe_int (fun _ _ => rfl)) pe_str (nomark _)) (pw_and1 (pt_cmpR o_isnt (pv 3) pe_non (nomark _)))))
     (pss_one (ps_ret (pv 3)))
     pss_nil)
     (pss_one (ps_ret (pe_op (k_add (K := K) rfl) (pv 1) pe_int)))))), fun G J es g Φ h => ?_⟩
  · obtain ⟨r, p, sp, k, rfl, _⟩ := h
    rfl
  · obtain ⟨r, p, sp, k, rfl, ho, hs, h⟩ := h
    walk_at "S"
    cases r
    case go a q =>
      simp only [Row.ok] at ho
      walk_at "R"
      refine ⟨fun e => ?_, fun e => ?_⟩
      · have e' : ¬ sp.getD a 0 = 0 := by simpa using e
        walk_at "R"
        simp only [placeBehind, TM.sp] at h
        rw [if_pos e'] at h
        exact h
      · have e' : sp.getD a 0 = 0 := by simpa using e
        walk_at "R"
        simp only [placeBehind, TM.sp] at h
        rw [if_neg (fun z => z e')] at h
        exact h
    case home =>
      cases k <;> walk_at "R"
      all_goals exact h
    all_goals walk_at "R"
    all_goals exact h
abbrev s_put_at : Stmt := top 16
theorem sc_put_at : FnScope ["worths", "at", "worth"] ["worths", "at", "worth"] (defScope s_put_at) := ⟨rfl, rfl, rfl, by decide +kernel, rfl, by decide +kernel, by decide +kernel⟩
theorem df_put_at (B : Bl mg) (F : FuD K mg "put_at" ["worths", "at", "worth"] s_put_at) : Df P w K mg base "put_at" 1 ["worths", "at", "worth"] (spD S_put_at) := by
  refine F.ok (n := 0) sc_put_at (fun G J es g Φ h => ?_) fun f cdv A outer s H E hr => ⟨_, (have hu := hu_of hr; (pss_one (ps_ret (pe_op (k_add (K := K) rfl) (pe_op (k_add (K := K) rfl) (pe_slice (k_sl (K := K) rfl) (pv 0) po_none (po_some (pv 1))) (pe_tup (pa_cons (pv 2) pa_nil))) (pe_slice (k_sl (K := K) rfl) (pv 0) (po_some (pe_op (k_add (K := K) rfl) (pv 1) pe_int)) po_none))))), fun G J es g Φ h => ?_⟩
  · obtain ⟨xs, i, w, rfl, _⟩ := h
    rfl
  · obtain ⟨xs, i, w, rfl, hi, hz, h⟩ := h
    walk_at "S"
    walk_at "R"
    rw [cut_take (by simp; omega)]
    refine ro_add_t (by simp; omega) ?_
    walk_at "R"
    have e1 : (i : Int) + 1 = ((i + 1 : Nat) : Int) := by omega
    rw [e1, cut_drop (by simp; omega)]
    refine ro_add_t (by simp; omega) ?_
    rw [cut_mid hi]
    exact h
abbrev s_step : Stmt := top 20
theorem sc_step : FnScope ["mill", "state", "place", "spots", "cells", "shut", "kept", "row", "wrote", "leads"] ["mill", "state"] (defScope s_step) := ⟨rfl, rfl, rfl, by decide +kernel, rfl, by decide +kernel, by decide +kernel⟩
theorem df_step (B : Bl mg) (D_rests : Df P w K mg base "rests" 1 ["mill", "state"] (spD S_rests)) (D_wrote_by : Df P w K mg base "wrote_by" 3 ["row", "spots", "cells"] (spD S_wrote_by)) (D_place_behind : Df P w K mg base "place_behind" 1 ["row", "place", "spots", "kept"] (spD S_place_behind)) (D_put_at : Df P w K mg base "put_at" 1 ["worths", "at", "worth"] (spD S_put_at)) (F : FuD K mg "step" ["mill", "state"] s_step) : Df P w K mg base "step" 4 ["mill", "state"] (spD S_step) := by
  refine F.ok (n := 3) sc_step (fun G J es g Φ h => ?_) fun f cdv A outer s H E hr => ⟨_, (have hu := hu_of hr; (pss_cons (ps_if (pt_val (pe_df D_rests (hr.mono (by decide)) (by rfl) (pa_cons (pv 0) (pa_cons (pv 1) pa_nil))))
     (pss_one ps_never)
     pss_nil)
     (pss_cons (ps_asg (pv 1) (k_tg (K := K) (n := 5) rfl rfl (pgs_cons (pg_name (i := 2) sc_step.nd rfl (Or.inl rfl)) (pgs_cons (pg_name (i := 3) sc_step.nd rfl (Or.inl rfl)) (pgs_cons (pg_name (i := 4) sc_step.nd rfl (Or.inl rfl)) (pgs_cons (pg_name (i := 5) sc_step.nd rfl (Or.inl rfl)) (pgs_cons (pg_name (i := 6) sc_step.nd rfl (Or.inl rfl)) pgs_nil)))))))
     (pss_cons (ps_set (i := 7) sc_step.nd rfl (Or.inl rfl) (pe_ix (k_ix (K := K) rfl) (pe_ix (k_ix (K := K) rfl) (pv 0) pe_int (fun _ _ => rfl)) (pv 2) (fun _ _ => rfl)))
     (pss_cons (ps_set (i := 8) sc_step.nd rfl (Or.inl rfl) (pe_df D_wrote_by (hr.mono (by decide)) (by rfl) (pa_cons (pv 7) (pa_cons (pv 3) (pa_cons (pv 4) pa_nil)))))
     (pss_cons (ps_set (i := 9) sc_step.nd rfl (Or.inl rfl) (pe_df D_place_behind (hr.mono (by decide)) (by rfl) (pa_cons (pv 7) (pa_cons (pv 2) (pa_cons (pv 3) (pa_cons (pv 6) pa_nil))))))
     (pss_cons (ps_if (PW.pt (pw_and (pt_cmpR o_isnt (pv 8) pe_non (nomark _)) (pw_and1 (pt_cmpR (k_eq (K := K) rfl hr.units) (pe_ix (k_ix (K := K) rfl) (pv 8) pe_int (fun _ _ => rfl)) pe_str (nomark _)))))
     (pss_one (ps_set (i := 3) sc_step.nd rfl (Or.inl rfl) (pe_df D_put_at (hr.mono (by decide)) (by rfl) (pa_cons (pv 3) (pa_cons (pe_ix (k_ix (K := K) rfl) (pv 8) pe_int (fun _ _ => rfl)) (pa_cons (pe_ix (k_ix (K := K) rfl) (pv 8) pe_int (fun _ _ => rfl)) pa_nil))))))
     (pss_one (ps_if (pt_cmpR o_isnt (pv 8) pe_non (nomark _))
     (pss_one (ps_set (i := 4) sc_step.nd rfl (Or.inl rfl) (pe_df D_put_at (hr.mono (by decide)) (by rfl) (pa_cons (pv 4) (pa_cons (pe_ix (k_ix (K := K) rfl) (pv 8) pe_int (fun _ _ => rfl)) (pa_cons (pe_ix (k_ix (K := K) rfl) (pv 8) pe_int (fun _ _ => rfl)) pa_nil))))))
     pss_nil)))
     (pss_cons (ps_if (pt_cmpR (k_eq (K := K) rfl hr.units) (pe_ix (k_ix (K := K) rfl) (pv 7) pe_int (fun _ _ => rfl)) pe_str (nomark _))
     (pss_one (ps_set (i := 5) sc_step.nd rfl (Or.inl rfl) pe_bl))
     (pss_one (ps_if (pt_cmpR (k_eq (K := K) rfl hr.units) (pe_ix (k_ix (K := K) rfl) (pv 7) pe_int (fun _ _ => rfl)) pe_str (nomark _))
     (pss_one (ps_set (i := 5) sc_step.nd rfl (Or.inl rfl) pe_bl))
     (pss_one (ps_if (pt_cmpR (k_eq (K := K) rfl hr.units) (pe_ix (k_ix (K := K) rfl) (pv 7) pe_int (fun _ _ => rfl)) pe_str (nomark _))
     (pss_cons (ps_set (i := 5) sc_step.nd rfl (Or.inl rfl) pe_bl)
     (pss_one (ps_set (i := 6) sc_step.nd rfl (Or.inl rfl) pe_non)))
     pss_nil)))))
     (pss_one (ps_ret (pe_tup (pa_cons (pe_tup (pa_cons (pv 9) (pa_cons (pv 3) (pa_cons (pv 4) (pa_cons (pv 5) (pa_cons (pv 6) pa_nil)))))) (pa_cons (pe_tup (pa_cons (pv 2) (pa_cons (pv 8) pa_nil))) pa_nil))))))))))))), fun G J es g Φ h => ?_⟩
  · obtain ⟨m, s, rfl, _⟩ := h
    rfl
  · obtain ⟨m, st, rfl, hm, hs, hp, h⟩ := h
    walk_at "S"
    have hp2 : st.place < m.rows.length := by have := hs.p1; omega
    walk_at "R"
    refine ⟨fun e => absurd (of_decide_eq_true e) hp, fun _ => ?_⟩
    walk_at "R"
    refine ⟨_, at_rows hs.p0 hp2, ?_⟩
    have ho := row_ok hm hs.p0 hp2
    unfold step at h
    generalize m.row st.place = r at ho h ⊢
    have hsp := hs.sp
    have hce := hs.ce
    walk_at "R"
    refine ⟨ho, hs.sp, hs.ce, hs.sw, ?_⟩
    walk_at "R"
    refine ⟨_, _, _, _, rfl, ho, hs.sp, ?_⟩
    cases r
    all_goals simp only [wroteBy, Row.ok] at ho ⊢
    all_goals walk_at "R"
    all_goals try (refine ⟨by omega, by omega, ?_⟩)
    all_goals walk_at "R"
    all_goals first
      | exact h
      | (refine ⟨by have := cellAt_lt st.spots ‹_› ‹_›; omega, by omega, ?_⟩
         walk_at "R"
         exact h)
abbrev s_is_slow : Stmt := top 11
theorem sc_is_slow : FnScope ["row"] ["row"] (defScope s_is_slow) := ⟨rfl, rfl, rfl, by decide +kernel, rfl, by decide +kernel, by decide +kernel⟩
theorem df_is_slow (B : Bl mg) (F : FuD K mg "is_slow" ["row"] s_is_slow) : Df P w K mg base "is_slow" 1 ["row"] (spD S_is_slow) := by
  refine F.ok (n := 0) sc_is_slow (fun G J es g Φ h => ?_) fun f cdv A outer s H E hr => ⟨_, (have hu := hu_of hr; (pss_one (ps_ret (pe_or (pe_cmpR (k_eq (K := K) rfl hr.units) (pe_ix (k_ix (K := K) rfl) (pv 0) pe_int (fun _ _ => rfl)) pe_str (nomark _)) (pe_one (pe_cmpR (k_eq (K := K) rfl hr.units) (pe_ix (k_ix (K := K) rfl) (pv 0) pe_int (fun _ _ => rfl)) pe_str (nomark _))))))), fun G J es g Φ h => ?_⟩
  · obtain ⟨r, rfl, _⟩ := h
    rfl
  · obtain ⟨r, rfl, h⟩ := h
    walk_at "S"
    cases r
    all_goals walk_at "R"
    all_goals exact h
abbrev s_wrote_cause : Stmt := top 29
theorem sc_wrote_cause : FnScope ["row", "due", "terms", "stand", "wrote"] ["row", "due", "terms", "stand", "wrote"] (defScope s_wrote_cause) := ⟨rfl, rfl, rfl, by decide +kernel, rfl, by decide +kernel, by decide +kernel⟩
theorem df_wrote_cause (B : Bl mg) (D_is_slow : Df P w K mg base "is_slow" 1 ["row"] (spD S_is_slow)) (F : FuD K mg "wrote_cause" ["row", "due", "terms", "stand", "wrote"] s_wrote_cause) : Df P w K mg base "wrote_cause" 2 ["row", "due", "terms", "stand", "wrote"] (spD S_wrote_cause) := by
  refine F.ok (n := 1) sc_wrote_cause (fun G J es g Φ h => ?_) fun f cdv A outer s H E hr => ⟨_, (have hu := hu_of hr; (pss_cons (ps_if (PW.pt (pw_or (pt_cmpR o_is (pv 1) pe_non (nomark _)) (pw_or1 (pt_cmpR o_is (pv 4) pe_non (nomark _)))))
     (pss_cons (ps_if (PW.pt (pw_and (pt_cmpR o_is (pv 1) pe_non (nomark _)) (pw_and1 (pt_cmpR o_is (pv 4) pe_non (nomark _)))))
     (pss_one (ps_ret pe_non))
     pss_nil)
     (pss_one (ps_ret pe_str)))
     pss_nil)
     (pss_cons (ps_if (pt_cmpR (k_ne (K := K) rfl hr.units) (pe_slice (k_sl (K := K) rfl) (pv 4) po_none (po_some pe_int)) (pe_slice (k_sl (K := K) rfl) (pv 1) po_none (po_some pe_int)) (nomark _))
     (pss_one (ps_ret pe_str))
     pss_nil)
     (pss_cons (ps_if (pt_cmpR o_is (pe_ix (k_ix (K := K) rfl) (pv 4) pe_int (fun _ _ => rfl)) pe_non (nomark _))
     (pss_cons (ps_if (pt_not (pt_val (pe_df D_is_slow (hr.mono (by decide)) (by rfl) (pa_cons (pv 0) pa_nil))))
     (pss_one (ps_ret pe_str))
     pss_nil)
     (pss_cons (ps_if (pt_cmpR o_ge (pe_callB (k_len (K := K) rfl) (by rfl) B.len_ PySem.boot_len (pa_cons (pe_ix (k_ix (K := K) rfl) (pv 3) pe_int (fun _ _ => rfl)) pa_nil)) (pe_ix (k_ix (K := K) rfl) (pv 2) pe_int (fun _ _ => rfl)) (nomark _))
     (pss_one (ps_ret pe_str))
     pss_nil)
     (pss_one (ps_ret pe_non))))
     pss_nil)
     (pss_cons (ps_if (pt_cmpR (k_ne (K := K) rfl hr.units) (pe_ix (k_ix (K := K) rfl) (pv 4) pe_int (fun _ _ => rfl)) (pe_ix (k_ix (K := K) rfl) (pv 1) pe_int (fun _ _ => rfl)) (nomark _))
     (pss_one (ps_ret pe_str))
     pss_nil)
     (pss_cons (ps_if (PW.pt (pw_and (pt_cmpR (k_eq (K := K) rfl hr.units) (pe_ix (k_ix (K := K) rfl) (pv 1) pe_int (fun _ _ => rfl)) pe_str (nomark _)) (pw_and1 (pt_cmpR o_ge (pe_callB (k_len (K := K) rfl) (by rfl) B.len_ PySem.boot_len (pa_cons (pe_ix (k_ix (K := K) rfl) (pv 3) pe_int (fun _ _ => rfl)) pa_nil)) (pe_ix (k_ix (K := K) rfl) (pv 2) pe_int (fun _ _ => rfl)) (nomark _)))))
     (pss_one (ps_ret pe_str))
     pss_nil)
     (pss_one (ps_ret pe_non)))))))), fun G J es g Φ h => ?_⟩
  · obtain ⟨r, tm, sd, x, w, rfl, _⟩ := h
    rfl
  · obtain ⟨r, tm, ⟨st, be, cr, pr, ow, la, tk, en⟩, x, w, rfl, h⟩ := h
    walk_at "S"
    cases x
    case no =>
      cases w <;> walk_at "R"
      all_goals exact h
    case spot d x =>
      cases w
      case no =>
        walk_at "R"
        exact h
      case cell e v =>
        walk_at "R"
        refine ro_ne_si (by decide +kernel) (by decide +kernel) ?_
        walk_at "R"
        exact h
      case spot e v =>
        walk_at "R"
        refine ro_ne_si (by decide +kernel) (by decide +kernel) ?_
        walk_at "R"
        refine ⟨fun z => ?_, fun z => ?_⟩
        · have z' : e ≠ d := by simpa using z
          walk_at "R"
          simpa [wroteCause, z'] using h
        · have z' : e = d := by simpa using z
          simp only [wroteCause, z', ne_eq, not_true_eq_false, if_false] at h
          cases v
          case none =>
            walk_at "R"
            cases hs : slow r
            · walk_at "R"
              simpa [hs] using h
            · walk_at "R"
              refine ⟨fun q => ?_, fun q => ?_⟩
              · walk_at "R"
                simp only [hs, Bool.not_true, Bool.false_eq_true, if_false] at h
                rw [if_pos (by simpa using q)] at h
                exact h
              · walk_at "R"
                simp only [hs, Bool.not_true, Bool.false_eq_true, if_false] at h
                rw [if_neg (by simpa using q)] at h
                exact h
          case some v =>
            walk_at "R"
            refine ⟨fun q => ?_, fun q => ?_⟩
            · have q' : v ≠ x := by simpa using q
              walk_at "R"
              simpa [q'] using h
            · have q' : v = x := by simpa using q
              walk_at "R"
              simpa [q'] using h
    case cell d x =>
      cases w
      case no =>
        walk_at "R"
        exact h
      case spot e v =>
        walk_at "R"
        refine ro_ne_si (by decide +kernel) (by decide +kernel) ?_
        walk_at "R"
        exact h
      case cell e v =>
        walk_at "R"
        refine ro_ne_si (by decide +kernel) (by decide +kernel) ?_
        walk_at "R"
        refine ⟨fun z => ?_, fun z => ?_⟩
        · have z' : e ≠ d := by simpa using z
          walk_at "R"
          simpa [wroteCause, z'] using h
        · have z' : e = d := by simpa using z
          simp only [wroteCause, z', ne_eq, not_true_eq_false, if_false] at h
          cases v
          case none =>
            walk_at "R"
            cases hs : slow r
            · walk_at "R"
              simpa [hs] using h
            · walk_at "R"
              refine ⟨fun q => ?_, fun q => ?_⟩
              · walk_at "R"
                simp only [hs, Bool.not_true, Bool.false_eq_true, if_false] at h
                rw [if_pos (by simpa using q)] at h
                exact h
              · walk_at "R"
                simp only [hs, Bool.not_true, Bool.false_eq_true, if_false] at h
                rw [if_neg (by simpa using q)] at h
                exact h
          case some v =>
            walk_at "R"
            refine ⟨fun q => ?_, fun q => ?_⟩
            · have q' : v ≠ x := by simpa using q
              walk_at "R"
              simpa [q'] using h
            · have q' : v = x := by simpa using q
              simp only [q', not_true_eq_false, if_false] at h
              walk_at "R"
              refine ⟨fun c => ?_, fun c => ?_⟩
              · walk_at "R"
                rw [if_pos (by simpa using c)] at h
                exact h
              · walk_at "R"
                rw [if_neg (by simpa using c)] at h
                exact h
abbrev s_end_cause : Stmt := top 28
theorem sc_end_cause : FnScope ["mill", "rings", "terms", "stand", "event", "state", "last", "crowd", "pressed", "owed", "laid", "took", "ends", "row", "touched", "one"] ["mill", "rings", "terms", "stand", "event"] (defScope s_end_cause) := ⟨rfl, rfl, rfl, by decide +kernel, rfl, by decide +kernel, by decide +kernel⟩
theorem df_end_cause (B : Bl mg) (D_rests : Df P w K mg base "rests" 1 ["mill", "state"] (spD S_rests)) (D_is_pressed : Df P w K mg base "is_pressed" 2 ["rings", "stand", "beat"] (spD S_is_pressed)) (D_spots_read : Df P w K mg base "spots_read" 1 ["row"] (spD S_spots_read)) (D_spot_written : Df P w K mg base "spot_written" 1 ["row"] (spD S_spot_written)) (D_step : Df P w K mg base "step" 4 ["mill", "state"] (spD S_step)) (D_wrote_cause : Df P w K mg base "wrote_cause" 2 ["row", "due", "terms", "stand", "wrote"] (spD S_wrote_cause)) (F : FuD K mg "end_cause" ["mill", "rings", "terms", "stand", "event"] s_end_cause) : Df P w K mg base "end_cause" 5 ["mill", "rings", "terms", "stand", "event"] (spD S_end_cause) := by
  refine F.ok (n := 4) sc_end_cause (fun G J es g Φ h => ?_) fun f cdv A outer s H E hr => ⟨_, (have hu := hu_of hr; (pss_cons (ps_asg (pv 3) (k_tg (K := K) (n := 8) rfl rfl (pgs_cons (pg_name (i := 5) sc_end_cause.nd rfl (Or.inl rfl)) (pgs_cons (pg_name (i := 6) sc_end_cause.nd rfl (Or.inl rfl)) (pgs_cons (pg_name (i := 7) sc_end_cause.nd rfl (Or.inl rfl)) (pgs_cons (pg_name (i := 8) sc_end_cause.nd rfl (Or.inl rfl)) (pgs_cons (pg_name (i := 9) sc_end_cause.nd rfl (Or.inl rfl)) (pgs_cons (pg_name (i := 10) sc_end_cause.nd rfl (Or.inl rfl)) (pgs_cons (pg_name (i := 11) sc_end_cause.nd rfl (Or.inl rfl)) (pgs_cons (pg_name (i := 12) sc_end_cause.nd rfl (Or.inl rfl)) pgs_nil))))))))))
     (pss_cons (ps_if (pt_val (pe_df D_rests (hr.mono (by decide)) (by rfl) (pa_cons (pv 0) (pa_cons (pv 5) pa_nil))))
     (pss_one (ps_ret pe_str))
     pss_nil)
     (pss_cons (ps_if (pt_cmpR (k_ne (K := K) rfl hr.units) (pe_ix (k_ix (K := K) rfl) (pv 4) pe_int (fun _ _ => rfl)) (pe_ix (k_ix (K := K) rfl) (pv 5) pe_int (fun _ _ => rfl)) (nomark _))
     (pss_one (ps_ret pe_str))
     pss_nil)
     (pss_cons (ps_if (PW.pt (pw_and (pt_cmpR (k_eq (K := K) rfl hr.units) (pe_ix (k_ix (K := K) rfl) (pv 4) pe_int (fun _ _ => rfl)) (pv 6) (nomark _)) (pw_and1 (pt_cmpR o_ge (pv 7) (pe_ix (k_ix (K := K) rfl) (pv 2) pe_int (fun _ _ => rfl)) (nomark _)))))
     (pss_one (ps_ret pe_str))
     pss_nil)
     (pss_cons (ps_if (PW.pt (pw_and (pt_cmpR o_ge (pv 8) (pe_ix (k_ix (K := K) rfl) (pv 2) pe_int (fun _ _ => rfl)) (nomark _)) (pw_and1 (pt_val (pe_df D_is_pressed (hr.mono (by decide)) (by rfl) (pa_cons (pv 1) (pa_cons (pv 3) (pa_cons (pe_ix (k_ix (K := K) rfl) (pv 4) pe_int (fun _ _ => rfl)) pa_nil))))))))
     (pss_one (ps_ret pe_str))
     pss_nil)
     (pss_cons (ps_set (i := 13) sc_end_cause.nd rfl (Or.inl rfl) (pe_ix (k_ix (K := K) rfl) (pe_ix (k_ix (K := K) rfl) (pv 0) pe_int (fun _ _ => rfl)) (pe_ix (k_ix (K := K) rfl) (pv 5) pe_int (fun _ _ => rfl)) (fun _ _ => rfl)))
     (pss_cons (ps_set (i := 14) sc_end_cause.nd rfl (Or.inl rfl) (pe_op (k_add (K := K) rfl) (pe_df D_spots_read (hr.mono (by decide)) (by rfl) (pa_cons (pv 13) pa_nil)) (pe_lst (pa_cons (pe_df D_spot_written (hr.mono (by decide)) (by rfl) (pa_cons (pv 13) pa_nil)) pa_nil))))
     (pss_cons (ps_for PassesOwn.never rfl (k_tupI (K := K) rfl (pv 9)) (pg_name (i := 15) sc_end_cause.nd rfl (Or.inl rfl))
     (pss_one (ps_if (pt_cmpR (k_in (K := K) rfl) (pe_ix (k_ix (K := K) rfl) (pv 15) pe_int (fun _ _ => rfl)) (pv 14) (by rfl))
     (pss_one (ps_ret pe_str))
     pss_nil)))
     (pss_one (ps_ret (pe_df D_wrote_cause (hr.mono (by decide)) (by rfl) (pa_cons (pv 13) (pa_cons (pe_ix (k_ix (K := K) rfl) (pe_ix (k_ix (K := K) rfl) (pe_df D_step (hr.mono (by decide)) (by rfl) (pa_cons (pv 0) (pa_cons (pv 5) pa_nil))) pe_int (fun _ _ => rfl)) pe_int (fun _ _ => rfl)) (pa_cons (pv 2) (pa_cons (pv 3) (pa_cons (pe_ix (k_ix (K := K) rfl) (pv 4) pe_int (fun _ _ => rfl)) pa_nil))))))))))))))))), fun G J es g Φ h => ?_⟩
  · obtain ⟨m, rs, tm, sd, b, p, w, rfl, _⟩ := h
    rfl
  · obtain ⟨m, rs, tm, sd, b, p, w, rfl, hm, hr, hs, h⟩ := h
    walk_at "S"
    walk_at "Q"
    refine ⟨fun z => ?_, fun z => ?_⟩
    · rw [end_rest (by simpa using z)] at h
      walk_at "R"
      exact h
    have z0 : ¬ sd.st.place = m.rows.length := by simpa using z
    have zl : sd.st.place < m.rows.length := by have := hs.st.p1; omega
    walk_at "Q"
    refine ⟨fun z => ?_, fun z => ?_⟩
    · rw [end_place z0 (by simpa using z)] at h
      walk_at "R"
      exact h
    have z1 : ¬ (p ≠ sd.st.place) := by simpa using z
    walk_at "Q"
    refine wt_andX (decide (b = sd.beat)) (decide (tm.width ≤ sd.crowd)) ?_ (fun _ => ?_) ?_
    · walk_at "R"
      rfl
    · walk_at "R"
      rfl
    refine ⟨fun z => ?_, fun z2 => ?_⟩
    · rw [end_crowd z0 z1 z] at h
      walk_at "R"
      exact h
    walk_at "Q"
    refine wt_andX (decide (tm.patience ≤ sd.pressed)) (pressed rs sd b) ?_ (fun _ => ?_) ?_
    · walk_at "R"
      rfl
    · walk_at "R"
      refine ⟨m, rs, sd, b, rfl, hm, hr, ?_⟩
      walk_at "R"
      rfl
    refine ⟨fun z => ?_, fun z3 => ?_⟩
    · rw [end_bell z0 z1 z2 z] at h
      walk_at "R"
      exact h
    walk_at "Q"
    refine ⟨_, at_rows hs.st.p0 zl, ?_⟩
    have ho := row_ok hm hs.st.p0 zl
    walk_at "Q"
    refine ro_add_l (by have := reads_len (m.row sd.st.place); simp; omega) ?_
    walk_at "Q"
    refine ws_find (vs := [15]) sd.owed owD (fun o => touches (m.row sd.st.place) o.spot) ?_
    refine wi_tup ?_
    walk_at "Q"
    refine ⟨fun o ho hf => ?_, fun hf => ?_⟩
    · walk_at "W"
      walk_at "Q"
      refine ro_in_l rfl (flat_app (flat_reads _) (by cases writes (m.row sd.st.place) <;> rfl)) ?_
      rw [inD_touch]
      walk_at "Q"
      refine ⟨fun c => ?_, fun c => ?_⟩
      · rw [end_ahead z0 z1 z2 z3 (any_of ho c)] at h
        walk_at "R"
        exact h
      · walk_at "R"
        exact ⟨c, rfl⟩
    · rw [end_wrote z0 z1 z2 z3 hf] at h
      walk_at "W"
      walk_at "R"
      refine ⟨hm, hs.st, z0, ?_⟩
      walk_at "R"
      exact ⟨_, tm, sd, _, w, rfl, h⟩
abbrev s_late_cause : Stmt := top 30
theorem sc_late_cause : FnScope ["stand", "event", "n", "spot", "worth", "since"] ["stand", "event"] (defScope s_late_cause) := ⟨rfl, rfl, rfl, by decide +kernel, rfl, by decide +kernel, by decide +kernel⟩
theorem df_late_cause (B : Bl mg) (F : FuD K mg "late_cause" ["stand", "event"] s_late_cause) : Df P w K mg base "late_cause" 1 ["stand", "event"] (spD S_late_cause) := by
  refine F.ok (n := 0) sc_late_cause (fun G J es g Φ h => ?_) fun f cdv A outer s H E hr => ⟨_, (have hu := hu_of hr; (pss_cons (ps_for PassesOwn.never rfl (k_tupI (K := K) rfl (pe_ix (k_ix (K := K) rfl) (pv 0) pe_int (fun _ _ => rfl))) (k_tg (K := K) (n := 4) rfl rfl (pgs_cons (pg_name (i := 2) sc_late_cause.nd rfl (Or.inl rfl)) (pgs_cons (pg_name (i := 3) sc_late_cause.nd rfl (Or.inl rfl)) (pgs_cons (pg_name (i := 4) sc_late_cause.nd rfl (Or.inl rfl)) (pgs_cons (pg_name (i := 5) sc_late_cause.nd rfl (Or.inl rfl)) pgs_nil)))))
     (pss_one (ps_if (pt_cmpR (k_eq (K := K) rfl hr.units) (pv 2) (pe_ix (k_ix (K := K) rfl) (pv 1) pe_int (fun _ _ => rfl)) (nomark _))
     (pss_cons (ps_if (pt_cmpR (k_ne (K := K) rfl hr.units) (pv 4) (pe_ix (k_ix (K := K) rfl) (pv 1) pe_int (fun _ _ => rfl)) (nomark _))
     (pss_one (ps_ret pe_str))
     pss_nil)
     (pss_one (ps_ret pe_non)))
     pss_nil)))
     (pss_one (ps_ret pe_str)))), fun G J es g Φ h => ?_⟩
  · obtain ⟨sd, b, n, w, rfl, _⟩ := h
    rfl
  · obtain ⟨⟨st, be, cr, pr, ow, la, tk, en⟩, b, n, w, rfl, h⟩ := h
    walk_at "S"
    walk_at "R"
    refine ws_find (vs := [2, 3, 4, 5]) ow owD (fun o => decide (o.n = n)) ?_
    refine wi_tup ?_
    walk_at "R"
    simp only [lateCause] at h
    refine ⟨fun o ho hf => ?_, fun hf => ?_⟩
    · walk_at "W"
      walk_at "R"
      refine ⟨fun z => ?_, fun z => ?_⟩
      · rw [hf z] at h
        walk_at "R"
        refine ⟨fun c => ?_, fun c => ?_⟩
        · have c' : o.worth ≠ w := by simpa using c
          walk_at "R"
          simpa [c'] using h
        · have c' : o.worth = w := by simpa using c
          walk_at "R"
          simpa [c'] using h
      · walk_at "R"
        exact ⟨z, rfl⟩
    · walk_at "W"
      rw [hf] at h
      walk_at "R"
      exact h
abbrev s_down_cause : Stmt := top 31
theorem sc_down_cause : FnScope ["stand", "event", "laid"] ["stand", "event"] (defScope s_down_cause) := ⟨rfl, rfl, rfl, by decide +kernel, rfl, by decide +kernel, by decide +kernel⟩
theorem df_down_cause (B : Bl mg) (F : FuD K mg "down_cause" ["stand", "event"] s_down_cause) : Df P w K mg base "down_cause" 1 ["stand", "event"] (spD S_down_cause) := by
  refine F.ok (n := 0) sc_down_cause (fun G J es g Φ h => ?_) fun f cdv A outer s H E hr => ⟨_, (have hu := hu_of hr; (pss_cons (ps_set (i := 2) sc_down_cause.nd rfl (Or.inl rfl) (pe_ix (k_ix (K := K) rfl) (pv 0) pe_int (fun _ _ => rfl)))
     (pss_cons (ps_if (PW.pt (pw_or (pt_cmpR (k_eq (K := K) rfl hr.units) (pv 2) (pe_tup pa_nil) (nomark _)) (pw_or1 (pt_cmpR (k_ne (K := K) rfl hr.units) (pe_ix (k_ix (K := K) rfl) (pe_ix (k_ix (K := K) rfl) (pv 2) pe_int (fun _ _ => rfl)) pe_int (fun _ _ => rfl)) (pe_ix (k_ix (K := K) rfl) (pv 1) pe_int (fun _ _ => rfl)) (nomark _)))))
     (pss_one (ps_ret pe_str))
     pss_nil)
     (pss_cons (ps_if (pt_cmpR (k_ne (K := K) rfl hr.units) (pe_ix (k_ix (K := K) rfl) (pe_ix (k_ix (K := K) rfl) (pv 2) pe_int (fun _ _ => rfl)) pe_int (fun _ _ => rfl)) (pe_ix (k_ix (K := K) rfl) (pv 1) pe_int (fun _ _ => rfl)) (nomark _))
     (pss_one (ps_ret pe_str))
     pss_nil)
     (pss_cons (ps_if (pt_cmpR (k_ne (K := K) rfl hr.units) (pe_ix (k_ix (K := K) rfl) (pe_ix (k_ix (K := K) rfl) (pv 2) pe_int (fun _ _ => rfl)) pe_int (fun _ _ => rfl)) (pe_ix (k_ix (K := K) rfl) (pv 1) pe_int (fun _ _ => rfl)) (nomark _))
     (pss_one (ps_ret pe_str))
     pss_nil)
     (pss_one (ps_ret pe_non))))))), fun G J es g Φ h => ?_⟩
  · obtain ⟨sd, b, n, i, w, rfl, _⟩ := h
    rfl
  · obtain ⟨⟨st, be, cr, pr, ow, la, tk, en⟩, b, n, i, w, rfl, h⟩ := h
    walk_at "S"
    cases la
    case nil =>
      walk_at "R"
      refine ro_eq_nilT 1 (by decide) (by rfl) ?_
      walk_at "R"
      exact h
    case cons o la =>
      simp only [downCause] at h
      walk_at "R"
      refine ro_eq_nilT 1 (by decide) (ok_la 0 _) ?_
      walk_at "R"
      refine ⟨fun z => ?_, fun z => ?_⟩
      · have z' : o.n ≠ n := by simpa using z
        walk_at "R"
        simpa [z'] using h
      · have z' : o.n = n := by simpa using z
        simp only [z', ne_eq, not_true_eq_false, if_false] at h
        walk_at "R"
        refine ⟨fun z => ?_, fun z => ?_⟩
        · have z' : o.i ≠ i := by simpa using z
          walk_at "R"
          simpa [z'] using h
        · have z' : o.i = i := by simpa using z
          simp only [z', not_true_eq_false, if_false] at h
          walk_at "R"
          refine ⟨fun z => ?_, fun z => ?_⟩
          · have z' : o.worth ≠ w := by simpa using z
            walk_at "R"
            simpa [z'] using h
          · have z' : o.worth = w := by simpa using z
            walk_at "R"
            simpa [z'] using h
abbrev s_bell_cause : Stmt := top 32
theorem sc_bell_cause : FnScope ["rings", "stand", "event", "bells"] ["rings", "stand", "event"] (defScope s_bell_cause) := ⟨rfl, rfl, rfl, by decide +kernel, rfl, by decide +kernel, by decide +kernel⟩
theorem df_bell_cause (B : Bl mg) (D_waiting : Df P w K mg base "waiting" 1 ["rings", "took", "beat"] (spD S_waiting)) (F : FuD K mg "bell_cause" ["rings", "stand", "event"] s_bell_cause) : Df P w K mg base "bell_cause" 2 ["rings", "stand", "event"] (spD S_bell_cause) := by
  refine F.ok (n := 1) sc_bell_cause (fun G J es g Φ h => ?_) fun f cdv A outer s H E hr => ⟨_, (have hu := hu_of hr; (pss_cons (ps_set (i := 3) sc_bell_cause.nd rfl (Or.inl rfl) (pe_df D_waiting (hr.mono (by decide)) (by rfl) (pa_cons (pv 0) (pa_cons (pe_ix (k_ix (K := K) rfl) (pv 1) pe_int (fun _ _ => rfl)) (pa_cons (pe_ix (k_ix (K := K) rfl) (pv 2) pe_int (fun _ _ => rfl)) pa_nil)))))
     (pss_cons (ps_if (pt_cmpR (k_nin (K := K) rfl) (pe_ix (k_ix (K := K) rfl) (pv 2) pe_int (fun _ _ => rfl)) (pv 3) (by rfl))
     (pss_one (ps_ret pe_str))
     pss_nil)
     (pss_cons (ps_if (pt_val (pe_ix (k_ix (K := K) rfl) (pe_ix (k_ix (K := K) rfl) (pv 1) pe_int (fun _ _ => rfl)) pe_int (fun _ _ => rfl)))
     (pss_one (ps_ret pe_str))
     pss_nil)
     (pss_cons (ps_if (pt_cmpR o_lt (pe_ix (k_ix (K := K) rfl) (pv 3) pe_int (fun _ _ => rfl)) (pe_ix (k_ix (K := K) rfl) (pv 2) pe_int (fun _ _ => rfl)) (nomark _))
     (pss_one (ps_ret pe_str))
     pss_nil)
     (pss_one (ps_ret pe_non))))))), fun G J es g Φ h => ?_⟩
  · obtain ⟨m, rs, sd, b, k, rfl, _⟩ := h
    rfl
  · obtain ⟨m, rs, ⟨⟨p, sp, ce, sh, kp⟩, be, cr, pr, ow, la, tk, en⟩, b, k, rfl, hm, hr, h⟩ := h
    walk_at "S"
    simp only [bellCause] at h
    walk_at "R"
    refine ⟨m, rs, tk, b, rfl, hm, hr, ?_⟩
    generalize waits rs tk b = ws at h ⊢
    walk_at "R"
    refine ro_ni_l rfl (flat_ints _) ?_
    rw [inD_ints]
    walk_at "R"
    refine ⟨fun z => ?_, fun z => ?_⟩
    · have z' : k ∉ ws := by simpa using z
      walk_at "R"
      simpa [z'] using h
    · have z' : k ∈ ws := by simpa using z
      simp only [z', not_true_eq_false, if_false] at h
      cases sh
      · walk_at "R"
        cases ws
        case nil => simp at z'
        case cons a ws =>
          walk_at "R"
          refine ⟨fun c => ?_, fun c => ?_⟩
          · have c' : a < k := by simpa using c
            walk_at "R"
            simpa [c'] using h
          · have c' : ¬ a < k := by simpa using c
            walk_at "R"
            simpa [c'] using h
      · walk_at "R"
        simpa using h
abbrev s_cause_of : Stmt := top 27
theorem sc_cause_of : FnScope ["mill", "rings", "terms", "stand", "event", "n", "spot", "worth", "since"] ["mill", "rings", "terms", "stand", "event"] (defScope s_cause_of) := ⟨rfl, rfl, rfl, by decide +kernel, rfl, by decide +kernel, by decide +kernel⟩
theorem df_cause_of (B : Bl mg) (D_end_cause : Df P w K mg base "end_cause" 5 ["mill", "rings", "terms", "stand", "event"] (spD S_end_cause)) (D_late_cause : Df P w K mg base "late_cause" 1 ["stand", "event"] (spD S_late_cause)) (D_down_cause : Df P w K mg base "down_cause" 1 ["stand", "event"] (spD S_down_cause)) (D_bell_cause : Df P w K mg base "bell_cause" 2 ["rings", "stand", "event"] (spD S_bell_cause)) (F : FuD K mg "cause_of" ["mill", "rings", "terms", "stand", "event"] s_cause_of) : Df P w K mg base "cause_of" 6 ["mill", "rings", "terms", "stand", "event"] (spD S_cause_of) := by
  refine F.ok (n := 5) sc_cause_of (fun G J es g Φ h => ?_) fun f cdv A outer s H E hr => ⟨_, (have hu := hu_of hr; (pss_cons (ps_if (pt_cmpR o_lt (pe_ix (k_ix (K := K) rfl) (pv 4) pe_int (fun _ _ => rfl)) (pe_ix (k_ix (K := K) rfl) (pv 3) pe_int (fun _ _ => rfl)) (nomark _))
     (pss_one (ps_ret pe_str))
     pss_nil)
     (pss_cons (ps_for PassesOwn.never rfl (k_tupI (K := K) rfl (pe_ix (k_ix (K := K) rfl) (pv 3) pe_int (fun _ _ => rfl))) (k_tg (K := K) (n := 4) rfl rfl (pgs_cons (pg_name (i := 5) sc_cause_of.nd rfl (Or.inl rfl)) (pgs_cons (pg_name (i := 6) sc_cause_of.nd rfl (Or.inl rfl)) (pgs_cons (pg_name (i := 7) sc_cause_of.nd rfl (Or.inl rfl)) (pgs_cons (pg_name (i := 8) sc_cause_of.nd rfl (Or.inl rfl)) pgs_nil)))))
     (pss_one (ps_if (pt_cmpR o_lt (pe_op (k_add (K := K) rfl) (pv 8) (pe_ix (k_ix (K := K) rfl) (pv 2) pe_int (fun _ _ => rfl))) (pe_ix (k_ix (K := K) rfl) (pv 4) pe_int (fun _ _ => rfl)) (nomark _))
     (pss_one (ps_ret pe_str))
     pss_nil)))
     (pss_cons (ps_if (pt_cmpR (k_eq (K := K) rfl hr.units) (pe_ix (k_ix (K := K) rfl) (pv 4) pe_int (fun _ _ => rfl)) pe_str (nomark _))
     (pss_one (ps_ret (pe_df D_end_cause (hr.mono (by decide)) (by rfl) (pa_cons (pv 0) (pa_cons (pv 1) (pa_cons (pv 2) (pa_cons (pv 3) (pa_cons (pv 4) pa_nil))))))))
     pss_nil)
     (pss_cons (ps_if (pt_cmpR (k_eq (K := K) rfl hr.units) (pe_ix (k_ix (K := K) rfl) (pv 4) pe_int (fun _ _ => rfl)) pe_str (nomark _))
     (pss_one (ps_ret (pe_df D_late_cause (hr.mono (by decide)) (by rfl) (pa_cons (pv 3) (pa_cons (pv 4) pa_nil)))))
     pss_nil)
     (pss_cons (ps_if (pt_cmpR (k_eq (K := K) rfl hr.units) (pe_ix (k_ix (K := K) rfl) (pv 4) pe_int (fun _ _ => rfl)) pe_str (nomark _))
     (pss_one (ps_ret (pe_df D_down_cause (hr.mono (by decide)) (by rfl) (pa_cons (pv 3) (pa_cons (pv 4) pa_nil)))))
     pss_nil)
     (pss_one (ps_ret (pe_df D_bell_cause (hr.mono (by decide)) (by rfl) (pa_cons (pv 1) (pa_cons (pv 3) (pa_cons (pv 4) pa_nil)))))))))))), fun G J es g Φ h => ?_⟩
  · obtain ⟨m, rs, tm, sd, e, rfl, _⟩ := h
    rfl
  · obtain ⟨m, rs, tm, sd, e, rfl, hm, hr, hs, h⟩ := h
    walk_at "S"
    cases e
    case fin b p x =>
      walk_at "R"
      refine ⟨fun z => ?_, fun z => ?_⟩
      · walk_at "R"
        rw [cause_beat (e := .fin b p x) (of_decide_eq_true z)] at h
        exact h
      have z' : ¬ (Ev.fin b p x).beat < sd.beat := of_decide_eq_false z
      walk_at "R"
      refine ws_find (vs := [5, 6, 7, 8]) sd.owed owD (fun o => decide (o.since + tm.longest < b)) ?_
      refine wi_tup ?_
      walk_at "R"
      refine ⟨fun o ho hf => ?_, fun hf => ?_⟩
      · walk_at "W"
        walk_at "R"
        refine ⟨fun c => ?_, fun c => ?_⟩
        · walk_at "R"
          rw [cause_over z' (any_of ho c)] at h
          exact h
        · walk_at "R"
          exact ⟨c, rfl⟩
      · rw [cause_rest z' hf] at h
        walk_at "W"
        walk_at "R"
        exact ⟨m, rs, tm, sd, b, p, x, rfl, hm, hr, hs, h⟩
    case late b n x =>
      walk_at "R"
      refine ⟨fun z => ?_, fun z => ?_⟩
      · walk_at "R"
        rw [cause_beat (e := .late b n x) (of_decide_eq_true z)] at h
        exact h
      have z' : ¬ (Ev.late b n x).beat < sd.beat := of_decide_eq_false z
      walk_at "R"
      refine ws_find (vs := [5, 6, 7, 8]) sd.owed owD (fun o => decide (o.since + tm.longest < b)) ?_
      refine wi_tup ?_
      walk_at "R"
      refine ⟨fun o ho hf => ?_, fun hf => ?_⟩
      · walk_at "W"
        walk_at "R"
        refine ⟨fun c => ?_, fun c => ?_⟩
        · walk_at "R"
          rw [cause_over z' (any_of ho c)] at h
          exact h
        · walk_at "R"
          exact ⟨c, rfl⟩
      · rw [cause_rest z' hf] at h
        walk_at "W"
        walk_at "R"
        exact ⟨sd, b, n, x, rfl, h⟩
    case down b n i x =>
      walk_at "R"
      refine ⟨fun z => ?_, fun z => ?_⟩
      · walk_at "R"
        rw [cause_beat (e := .down b n i x) (of_decide_eq_true z)] at h
        exact h
      have z' : ¬ (Ev.down b n i x).beat < sd.beat := of_decide_eq_false z
      walk_at "R"
      refine ws_find (vs := [5, 6, 7, 8]) sd.owed owD (fun o => decide (o.since + tm.longest < b)) ?_
      refine wi_tup ?_
      walk_at "R"
      refine ⟨fun o ho hf => ?_, fun hf => ?_⟩
      · walk_at "W"
        walk_at "R"
        refine ⟨fun c => ?_, fun c => ?_⟩
        · walk_at "R"
          rw [cause_over z' (any_of ho c)] at h
          exact h
        · walk_at "R"
          exact ⟨c, rfl⟩
      · rw [cause_rest z' hf] at h
        walk_at "W"
        walk_at "R"
        exact ⟨sd, b, n, i, x, rfl, h⟩
    case bell b k =>
      walk_at "R"
      refine ⟨fun z => ?_, fun z => ?_⟩
      · walk_at "R"
        rw [cause_beat (e := .bell b k) (of_decide_eq_true z)] at h
        exact h
      have z' : ¬ (Ev.bell b k).beat < sd.beat := of_decide_eq_false z
      walk_at "R"
      refine ws_find (vs := [5, 6, 7, 8]) sd.owed owD (fun o => decide (o.since + tm.longest < b)) ?_
      refine wi_tup ?_
      walk_at "R"
      refine ⟨fun o ho hf => ?_, fun hf => ?_⟩
      · walk_at "W"
        walk_at "R"
        refine ⟨fun c => ?_, fun c => ?_⟩
        · walk_at "R"
          rw [cause_over z' (any_of ho c)] at h
          exact h
        · walk_at "R"
          exact ⟨c, rfl⟩
      · rw [cause_rest z' hf] at h
        walk_at "W"
        walk_at "R"
        exact ⟨m, rs, sd, b, k, rfl, hm, hr, h⟩
abbrev s_ask_bell : Stmt := top 21
theorem sc_ask_bell : FnScope ["mill", "k"] ["mill", "k"] (defScope s_ask_bell) := ⟨rfl, rfl, rfl, by decide +kernel, rfl, by decide +kernel, by decide +kernel⟩
theorem df_ask_bell (B : Bl mg) (F : FuD K mg "ask_bell" ["mill", "k"] s_ask_bell) : Df P w K mg base "ask_bell" 1 ["mill", "k"] (spD S_ask_bell) := by
  refine F.ok (n := 0) sc_ask_bell (fun G J es g Φ h => ?_) fun f cdv A outer s H E hr => ⟨_, (have hu := hu_of hr; (pss_one (ps_if (PW.pt (pw_or (pt_cmpR o_lt (pv 1) pe_int (nomark _)) (pw_or1 (pt_cmpR o_ge (pv 1) (pe_callB (k_len (K := K) rfl) (by rfl) B.len_ PySem.boot_len (pa_cons (pe_ix (k_ix (K := K) rfl) (pv 0) pe_int (fun _ _ => rfl)) pa_nil)) (nomark _)))))
     (pss_one ps_never)
     pss_nil))), fun G J es g Φ h => ?_⟩
  · obtain ⟨m, k, rfl, _⟩ := h
    rfl
  · obtain ⟨m, k, rfl, h0, h1, h⟩ := h
    walk_at "S"
    walk_at "R"
    refine ⟨fun e => absurd (of_decide_eq_true e) (by omega), fun _ => ?_⟩
    walk_at "R"
    refine ⟨fun e => absurd (of_decide_eq_true e) (by simp; omega), fun _ => ?_⟩
    walk_at "R"
    exact h
abbrev s_bell : Stmt := top 22
theorem sc_bell : FnScope ["mill", "state", "k", "place", "spots", "cells", "shut", "kept"] ["mill", "state", "k"] (defScope s_bell) := ⟨rfl, rfl, rfl, by decide +kernel, rfl, by decide +kernel, by decide +kernel⟩
theorem df_bell (B : Bl mg) (D_ask_bell : Df P w K mg base "ask_bell" 1 ["mill", "k"] (spD S_ask_bell)) (F : FuD K mg "bell" ["mill", "state", "k"] s_bell) : Df P w K mg base "bell" 2 ["mill", "state", "k"] (spD S_bell) := by
  refine F.ok (n := 1) sc_bell (fun G J es g Φ h => ?_) fun f cdv A outer s H E hr => ⟨_, (have hu := hu_of hr; (pss_cons (ps_expr (pe_df D_ask_bell (hr.mono (by decide)) (by rfl) (pa_cons (pv 0) (pa_cons (pv 2) pa_nil))))
     (pss_cons (ps_asg (pv 1) (k_tg (K := K) (n := 5) rfl rfl (pgs_cons (pg_name (i := 3) sc_bell.nd rfl (Or.inl rfl)) (pgs_cons (pg_name (i := 4) sc_bell.nd rfl (Or.inl rfl)) (pgs_cons (pg_name (i := 5) sc_bell.nd rfl (Or.inl rfl)) (pgs_cons (pg_name (i := 6) sc_bell.nd rfl (Or.inl rfl)) (pgs_cons (pg_name (i := 7) sc_bell.nd rfl (Or.inl rfl)) pgs_nil)))))))
     (pss_cons (ps_if (pt_val (pv 6))
     (pss_one ps_never)
     pss_nil)
     (pss_one (ps_ret (pe_tup (pa_cons (pe_ix (k_ix (K := K) rfl) (pe_ix (k_ix (K := K) rfl) (pv 0) pe_int (fun _ _ => rfl)) (pv 2) (fun _ _ => rfl)) (pa_cons (pv 4) (pa_cons (pv 5) (pa_cons pe_bl (pa_cons (pv 3) pa_nil)))))))))))), fun G J es g Φ h => ?_⟩
  · obtain ⟨m, s, k, rfl, _⟩ := h
    rfl
  · obtain ⟨m, ⟨p, sp, ce, sh, kp⟩, k, rfl, h0, h1, h2, h⟩ := h
    walk_at "S"
    simp only at h2
    subst h2
    walk_at "R"
    refine ⟨h0, h1, ?_⟩
    walk_at "R"
    refine ⟨_, at_intsI h0 h1, ?_⟩
    walk_at "R"
    exact h
abbrev s_taken_up : Stmt := top 33
theorem sc_taken_up : FnScope ["mill", "rings", "stand", "event", "state", "last", "crowd", "pressed", "owed", "laid", "took", "ends", "one", "told", "wrote"] ["mill", "rings", "stand", "event"] (defScope s_taken_up) := ⟨rfl, rfl, rfl, by decide +kernel, rfl, by decide +kernel, by decide +kernel⟩
theorem df_taken_up (B : Bl mg) (D_bell : Df P w K mg base "bell" 2 ["mill", "state", "k"] (spD S_bell)) (D_is_pressed : Df P w K mg base "is_pressed" 2 ["rings", "stand", "beat"] (spD S_is_pressed)) (D_step : Df P w K mg base "step" 4 ["mill", "state"] (spD S_step)) (F : FuD K mg "taken_up" ["mill", "rings", "stand", "event"] s_taken_up) : Df P w K mg base "taken_up" 5 ["mill", "rings", "stand", "event"] (spD S_taken_up) := by
  refine F.ok (n := 4) sc_taken_up (fun G J es g Φ h => ?_) fun f cdv A outer s H E hr => ⟨_, (have hu := hu_of hr; (pss_cons (ps_asg (pv 2) (k_tg (K := K) (n := 8) rfl rfl (pgs_cons (pg_name (i := 4) sc_taken_up.nd rfl (Or.inl rfl)) (pgs_cons (pg_name (i := 5) sc_taken_up.nd rfl (Or.inl rfl)) (pgs_cons (pg_name (i := 6) sc_taken_up.nd rfl (Or.inl rfl)) (pgs_cons (pg_name (i := 7) sc_taken_up.nd rfl (Or.inl rfl)) (pgs_cons (pg_name (i := 8) sc_taken_up.nd rfl (Or.inl rfl)) (pgs_cons (pg_name (i := 9) sc_taken_up.nd rfl (Or.inl rfl)) (pgs_cons (pg_name (i := 10) sc_taken_up.nd rfl (Or.inl rfl)) (pgs_cons (pg_name (i := 11) sc_taken_up.nd rfl (Or.inl rfl)) pgs_nil))))))))))
     (pss_cons (ps_if (pt_cmpR o_gt (pe_ix (k_ix (K := K) rfl) (pv 3) pe_int (fun _ _ => rfl)) (pv 5) (nomark _))
     (pss_one (ps_set (i := 6) sc_taken_up.nd rfl (Or.inl rfl) pe_int))
     pss_nil)
     (pss_cons (ps_if (pt_cmpR (k_eq (K := K) rfl hr.units) (pe_ix (k_ix (K := K) rfl) (pv 3) pe_int (fun _ _ => rfl)) pe_str (nomark _))
     (pss_one (ps_set (i := 8) sc_taken_up.nd rfl (Or.inl rfl) (pe_callTy (k_tup (K := K) rfl) (by rfl) B.tuple_ (by decide +kernel) (pa_cons (pe_lc (own := [("one", 12)]) (g := gName 12) (by rfl) sc_taken_up.nd (k_tupI (K := K) rfl (pv 8)) (blkOk_by (own := [("one", 12)]) (N := ["mill", "rings", "stand", "event", "state", "last", "crowd", "pressed", "owed", "laid", "took", "ends", "one", "told", "wrote"]) (sc := defScope s_taken_up) (by decide +kernel)) (fun _ _ _ _ _ => pg_name (i := 12) sc_taken_up.nd rfl (Or.inl rfl)) (fun _ _ _ _ _ => pts_one (pt_cmpR (k_ne (K := K) rfl hr.units) (pe_ix (k_ix (K := K) rfl) (pv 12) pe_int (fun _ _ => rfl)) (pe_ix (k_ix (K := K) rfl) (pv 3) pe_int (fun _ _ => rfl)) (nomark _))) (fun _ _ _ _ _ => (pv 12))) pa_nil))))
     (pss_one (ps_if (pt_cmpR (k_eq (K := K) rfl hr.units) (pe_ix (k_ix (K := K) rfl) (pv 3) pe_int (fun _ _ => rfl)) pe_str (nomark _))
     (pss_one (ps_set (i := 9) sc_taken_up.nd rfl (Or.inl rfl) (pe_slice (k_sl (K := K) rfl) (pv 9) (po_some pe_int) po_none)))
     (pss_one (ps_if (pt_cmpR (k_eq (K := K) rfl hr.units) (pe_ix (k_ix (K := K) rfl) (pv 3) pe_int (fun _ _ => rfl)) pe_str (nomark _))
     (pss_cons (ps_set (i := 4) sc_taken_up.nd rfl (Or.inl rfl) (pe_df D_bell (hr.mono (by decide)) (by rfl) (pa_cons (pv 0) (pa_cons (pv 4) (pa_cons (pe_ix (k_ix (K := K) rfl) (pv 3) pe_int (fun _ _ => rfl)) pa_nil)))))
     (pss_cons (ps_set (i := 10) sc_taken_up.nd rfl (Or.inl rfl) (pe_op (k_catZ (K := K) rfl) (pv 10) (pe_tupZ (pa_cons (pe_ix (k_ix (K := K) rfl) (pv 3) pe_int (fun _ _ => rfl)) pa_nil))))
     (pss_one (ps_set (i := 7) sc_taken_up.nd rfl (Or.inl rfl) pe_int))))
     (pss_cons (ps_set (i := 7) sc_taken_up.nd rfl (Or.inl rfl) (pe_op (k_add (K := K) rfl) (pv 7) pe_int))
     (pss_cons (ps_if (pt_not (pt_val (pe_df D_is_pressed (hr.mono (by decide)) (by rfl) (pa_cons (pv 1) (pa_cons (pv 2) (pa_cons (pe_ix (k_ix (K := K) rfl) (pv 3) pe_int (fun _ _ => rfl)) pa_nil))))))
     (pss_one (ps_set (i := 7) sc_taken_up.nd rfl (Or.inl rfl) pe_int))
     pss_nil)
     (pss_cons (ps_asg (pe_df D_step (hr.mono (by decide)) (by rfl) (pa_cons (pv 0) (pa_cons (pv 4) pa_nil))) (k_tg (K := K) (n := 2) rfl rfl (pgs_cons (pg_name (i := 4) sc_taken_up.nd rfl (Or.inl rfl)) (pgs_cons (pg_name (i := 13) sc_taken_up.nd rfl (Or.inl rfl)) pgs_nil))))
     (pss_cons (ps_set (i := 14) sc_taken_up.nd rfl (Or.inl rfl) (pe_ix (k_ix (K := K) rfl) (pv 13) pe_int (fun _ _ => rfl)))
     (pss_cons (ps_if (PW.pt (pw_and (pt_cmpR o_isnt (pv 14) pe_non (nomark _)) (pw_and1 (pt_cmpR o_is (pe_ix (k_ix (K := K) rfl) (pe_ix (k_ix (K := K) rfl) (pv 3) pe_int (fun _ _ => rfl)) pe_int (fun _ _ => rfl)) pe_non (nomark _)))))
     (pss_one (ps_set (i := 8) sc_taken_up.nd rfl (Or.inl rfl) (pe_op (k_add (K := K) rfl) (pv 8) (pe_tup (pa_cons (pe_tup (pa_cons (pv 11) (pa_cons (pe_ix (k_ix (K := K) rfl) (pv 14) pe_int (fun _ _ => rfl)) (pa_cons (pe_ix (k_ix (K := K) rfl) (pv 14) pe_int (fun _ _ => rfl)) (pa_cons (pe_ix (k_ix (K := K) rfl) (pv 3) pe_int (fun _ _ => rfl)) pa_nil))))) pa_nil)))))
     (pss_one (ps_if (PW.pt (pw_and (pt_cmpR o_isnt (pv 14) pe_non (nomark _)) (pw_and1 (pt_cmpR (k_eq (K := K) rfl hr.units) (pe_ix (k_ix (K := K) rfl) (pv 14) pe_int (fun _ _ => rfl)) pe_str (nomark _)))))
     (pss_one (ps_set (i := 9) sc_taken_up.nd rfl (Or.inl rfl) (pe_op (k_add (K := K) rfl) (pv 9) (pe_tup (pa_cons (pe_tup (pa_cons (pv 11) (pa_cons (pe_ix (k_ix (K := K) rfl) (pv 14) pe_int (fun _ _ => rfl)) (pa_cons (pe_ix (k_ix (K := K) rfl) (pv 14) pe_int (fun _ _ => rfl)) pa_nil)))) pa_nil)))))
     pss_nil)))
     (pss_cons (ps_set (i := 6) sc_taken_up.nd rfl (Or.inl rfl) (pe_op (k_add (K := K) rfl) (pv 6) pe_int))
     (pss_one (ps_set (i := 11) sc_taken_up.nd rfl (Or.inl rfl) (pe_op (k_add (K := K) rfl) (pv 11) pe_int))))))))))))))
     (pss_one (ps_ret (pe_tup (pa_cons (pv 4) (pa_cons (pe_ix (k_ix (K := K) rfl) (pv 3) pe_int (fun _ _ => rfl)) (pa_cons (pv 6) (pa_cons (pv 7) (pa_cons (pv 8) (pa_cons (pv 9) (pa_cons (pv 10) (pa_cons (pv 11) pa_nil))))))))))))))), fun G J es g Φ h => ?_⟩
  · obtain ⟨m, rs, sd, e, rfl, _⟩ := h
    rfl
  · obtain ⟨m, rs, sd, e, rfl, hm, hr, hs, hf, h⟩ := h
    walk_at "S"
    cases e
    case late b n x =>
      walk_at "X"
      refine ws_ifX (decide (sd.beat < b)) (.int (if sd.beat < b then 0 else sd.crowd)) ?_ (fun z => ?_) (fun z => ?_) ?_
      · walk_at "R"
        rfl
      · walk_at "R"
        rw [if_pos (of_decide_eq_true z)]
        exact ⟨rfl, rfl⟩
      · rw [if_neg (of_decide_eq_false z)]
      walk_at "Q"
      refine we_lcX tg_name ?_
      refine wi_tup ?_
      walk_at "Q"
      refine ⟨Ow, sd.owed, owD, fun o => decide (o.n ≠ n), owD, rfl, by have := hs.n1; omega, fun o ho => ?_, ?_⟩
      · refine ⟨_, rfl, ?_⟩
        walk_at "W"
        refine wt_test ?_
        walk_at "Q"
        refine ⟨fun z => ?_, fun z => ?_⟩
        · walk_at "Q"
          exact ⟨by simpa using z, rfl, rfl⟩
        · exact ⟨by simpa using z, rfl⟩
      · walk_at "Q"
        refine rc_tup_l ?_
        walk_at "Q"
        exact h
    case down b n i x =>
      walk_at "X"
      refine ws_ifX (decide (sd.beat < b)) (.int (if sd.beat < b then 0 else sd.crowd)) ?_ (fun z => ?_) (fun z => ?_) ?_
      · walk_at "R"
        rfl
      · walk_at "R"
        rw [if_pos (of_decide_eq_true z)]
        exact ⟨rfl, rfl⟩
      · rw [if_neg (of_decide_eq_false z)]
      walk_at "Q"
      rw [cut_drop1, ← List.map_drop]
      exact h
    case bell b k =>
      obtain ⟨hk, hsh⟩ := hf
      have kb := waits_mem hr hk
      walk_at "X"
      refine ws_ifX (decide (sd.beat < b)) (.int (if sd.beat < b then 0 else sd.crowd)) ?_ (fun z => ?_) (fun z => ?_) ?_
      · walk_at "R"
        rfl
      · walk_at "R"
        rw [if_pos (of_decide_eq_true z)]
        exact ⟨rfl, rfl⟩
      · rw [if_neg (of_decide_eq_false z)]
      walk_at "Q"
      refine ⟨kb.1, kb.2, hsh, ?_⟩
      walk_at "Q"
      refine we_tupZ ?_
      walk_at "Q"
      refine ro_catZ (by have := hs.n3; simp; omega) (by simp) ?_
      rw [ints_app]
      walk_at "Q"
      exact h
    case fin b p x =>
      obtain ⟨hp, hw⟩ := hf
      walk_at "X"
      refine ws_ifX (decide (sd.beat < b)) (.int (if sd.beat < b then 0 else sd.crowd)) ?_ (fun z => ?_) (fun z => ?_) ?_
      · walk_at "R"
        rfl
      · walk_at "R"
        rw [if_pos (of_decide_eq_true z)]
        exact ⟨rfl, rfl⟩
      · rw [if_neg (of_decide_eq_false z)]
      walk_at "X"
      refine ws_if ?_
      walk_at "X"
      refine ws_if ?_
      walk_at "X"
      refine ws_if ?_
      walk_at "X"
      refine ws_ifX (!pressed rs sd b) (.int (if pressed rs sd b then sd.pressed + 1 else 0)) ?_ (fun z => ?_) (fun z => ?_) ?_
      · walk_at "R"
        refine ⟨m, rs, sd, b, rfl, hm, hr, ?_⟩
        walk_at "R"
        rfl
      · walk_at "R"
        have z' : pressed rs sd b = false := by simpa using z
        rw [z']
        exact ⟨rfl, rfl⟩
      · have z' : pressed rs sd b = true := by simpa using z
        rw [z']
        rfl
      walk_at "Q"
      refine ⟨hm, hs.st, hp, ?_⟩
      walk_at "Q"
      simp only [takenUp] at h
      generalize (step m sd.st).1 = st' at h ⊢
      generalize (step m sd.st).2 = w at hw h ⊢
      cases w
      case no =>
        have hx := hw.mp rfl
        subst hx
        walk_at "R"
        exact h
      case spot d y =>
        cases x
        case no => exact absurd (hw.mpr rfl) (by simp)
        case spot e v =>
          cases v
          all_goals walk_at "R"
          all_goals first | exact h | skip
          all_goals
            refine ro_add_t (by have := hs.n1; have := hs.n2; simp; omega) ?_
            walk_at "R"
            simp only [isOwed, if_true, Bool.false_eq_true, if_false, sdD, List.map_append, List.map_cons, List.map_nil] at h
            exact h
        case cell e v =>
          cases v
          all_goals walk_at "R"
          all_goals first | exact h | skip
          all_goals
            refine ro_add_t (by have := hs.n1; have := hs.n2; simp; omega) ?_
            walk_at "R"
            simp only [isOwed, if_true, Bool.false_eq_true, if_false, sdD, List.map_append, List.map_cons, List.map_nil] at h
            exact h
      case cell d y =>
        cases x
        case no => exact absurd (hw.mpr rfl) (by simp)
        case spot e v =>
          cases v
          all_goals walk_at "R"
          all_goals first | exact h | skip
          all_goals
            refine ro_add_t (by have := hs.n1; have := hs.n2; simp; omega) ?_
            walk_at "R"
            simp only [isOwed, if_true, Bool.false_eq_true, if_false, sdD, List.map_append, List.map_cons, List.map_nil] at h
            exact h
        case cell e v =>
          cases v
          all_goals walk_at "R"
          all_goals first | exact h | skip
          all_goals
            refine ro_add_t (by have := hs.n1; have := hs.n2; simp; omega) ?_
            walk_at "R"
            simp only [isOwed, if_true, Bool.false_eq_true, if_false, sdD, List.map_append, List.map_cons, List.map_nil] at h
            exact h
abbrev s_Holder_tell : Stmt := inClass (top 35) 1
theorem sc_Holder_tell : FnScope ["self", "event"] ["self", "event"] (defScope s_Holder_tell) := ⟨rfl, rfl, rfl, by decide +kernel, rfl, by decide +kernel, by decide +kernel⟩
theorem df_Holder_tell {C : Addr} (B : Bl mg) (T : HTx K C) (D_cause_of : Df P w K mg base "cause_of" 6 ["mill", "rings", "terms", "stand", "event"] (spD S_cause_of)) (D_taken_up : Df P w K mg base "taken_up" 5 ["mill", "rings", "stand", "event"] (spD S_taken_up)) (F : FuM K C "tell" "Holder.tell" ["self", "event"] s_Holder_tell) : Mt P w K mg base C "tell" 7 ["self", "event"] (spH C S_tell) := by
  refine F.okH (n := 6) sc_Holder_tell (fun es hs Φ h => ?_) fun f cdv A outer s H E hr => ⟨_, (have hu := hu_of hr; (pss_cons (ps_if (pt_cmpR o_is (k_fld (K := K) rfl (pv 0) rfl) pe_non (nomark _))
     (pss_cons (k_sfld (K := K) rfl (pv 0) (pe_df D_cause_of (hr.mono (by decide)) (by rfl) (pa_cons (k_fld (K := K) rfl (pv 0) rfl) (pa_cons (k_fld (K := K) rfl (pv 0) rfl) (pa_cons (k_fld (K := K) rfl (pv 0) rfl) (pa_cons (k_fld (K := K) rfl (pv 0) rfl) (pa_cons (pv 1) pa_nil)))))) rfl)
     (pss_one (ps_if (pt_cmpR o_is (k_fld (K := K) rfl (pv 0) rfl) pe_non (nomark _))
     (pss_cons (k_sfld (K := K) rfl (pv 0) (pe_df D_taken_up (hr.mono (by decide)) (by rfl) (pa_cons (k_fld (K := K) rfl (pv 0) rfl) (pa_cons (k_fld (K := K) rfl (pv 0) rfl) (pa_cons (k_fld (K := K) rfl (pv 0) rfl) (pa_cons (pv 1) pa_nil))))) rfl)
     (pss_one (k_sfld (K := K) rfl (pv 0) (pe_op (k_add (K := K) rfl) (k_fld (K := K) rfl (pv 0) rfl) pe_int) rfl)))
     pss_nil)))
     pss_nil)
     (pss_one (ps_ret (k_fld (K := K) rfl (pv 0) rfl))))), fun G J hh es g hs Φ np h => ?_⟩
  · obtain ⟨e, rfl, _⟩ := h
    rfl
  · obtain ⟨e, rfl, hm, hr2, hok, h⟩ := h
    walk_at "S"
    rcases hs with ⟨m, rs, tm, sd, n, c⟩
    cases c
    case some c =>
      walk_at "RH"
      exact h
    case none =>
      have hs := hok rfl
      walk_at "RH"
      refine ⟨m, rs, tm, sd, e, rfl, hm, hr2, hs, ?_⟩
      walk_at "RH"
      cases hc : causeOf m rs tm sd e
      · walk_at "RH"
        refine ⟨m, rs, sd, e, rfl, hm, hr2, hs, fits_of hc, ?_⟩
        walk_at "RH"
        simp only [tellM, hc] at h
        exact h
      · walk_at "RH"
        simp only [tellM, hc] at h
        exact h
abbrev s_Holder_parted : Stmt := inClass (top 35) 7
theorem sc_Holder_parted : FnScope ["self"] ["self"] (defScope s_Holder_parted) := ⟨rfl, rfl, rfl, by decide +kernel, rfl, by decide +kernel, by decide +kernel⟩
theorem df_Holder_parted {C : Addr} (B : Bl mg) (T : HTx K C) (F : FuM K C "parted" "Holder.parted" ["self"] s_Holder_parted) : Mt P w K mg base C "parted" 1 ["self"] (spH C S_parted) := by
  refine F.okH (n := 0) sc_Holder_parted (fun es hs Φ h => ?_) fun f cdv A outer s H E hr => ⟨_, (have hu := hu_of hr; (pss_cons (ps_if (pt_cmpR o_is (k_fld (K := K) rfl (pv 0) rfl) pe_non (nomark _))
     (pss_one (ps_ret pe_non))
     pss_nil)
     (pss_one (ps_ret (pe_tup (pa_cons (k_fld (K := K) rfl (pv 0) rfl) (pa_cons (k_fld (K := K) rfl (pv 0) rfl) pa_nil))))))), fun G J hh es g hs Φ np h => ?_⟩
  · obtain ⟨rfl, _⟩ := h
    rfl
  · obtain ⟨rfl, h⟩ := h
    walk_at "S"
    rcases hs with ⟨m, rs, tm, sd, n, c⟩
    cases c
    · walk_at "RH"
      exact h
    · walk_at "RH"
      exact h
abbrev s_parting : Stmt := top 36
theorem sc_parting : FnScope ["mill", "state", "rings", "terms", "diary", "holder", "event"] ["mill", "state", "rings", "terms", "diary"] (defScope s_parting) := ⟨rfl, rfl, rfl, by decide +kernel, rfl, by decide +kernel, by decide +kernel⟩
theorem df_parting (B : Bl mg) {C : Addr} (T : HTx K C) (hC : mg "Holder" = some (.ref C)) (M_init : Mki P w K mg base C 2 ["self", "mill", "state", "rings", "terms"] (spInit C)) (M_tell : Mt P w K mg base C "tell" 7 ["self", "event"] (spH C S_tell)) (M_parted : Mt P w K mg base C "parted" 1 ["self"] (spH C S_parted)) (F : FuD K mg "parting" ["mill", "state", "rings", "terms", "diary"] s_parting) : Df P w K mg base "parting" 8 ["mill", "state", "rings", "terms", "diary"] (spD S_parting) := by
  refine F.ok (n := 7) sc_parting (fun G J es g Φ h => ?_) fun f cdv A outer s H E hr => ⟨_, (have hu := hu_of hr; (pss_cons (ps_set (i := 5) sc_parting.nd rfl (Or.inl rfl) (pe_mki M_init (hr.mono (by decide)) (by rfl) hC (pa_cons (pv 0) (pa_cons (pv 1) (pa_cons (pv 2) (pa_cons (pv 3) pa_nil))))))
     (pss_cons (ps_for PassesOwn.never rfl (k_list (K := K) rfl (pv 4)) (pg_name (i := 6) sc_parting.nd rfl (Or.inl rfl))
     (pss_one (ps_expr (pe_mt M_tell T.cl (hr.mono (by decide)) (pv 5) (pa_cons (pv 6) pa_nil)))))
     (pss_one (ps_ret (pe_mt0 M_parted T.cl (hr.mono (by decide)) (pv 5))))))), fun G J es g Φ h => ?_⟩
  · obtain ⟨m, st, rs, tm, evs, rfl, _⟩ := h
    rfl
  · obtain ⟨m, st, rs, tm, evs, rfl, hm, hr2, hb, hl, h⟩ := h
    walk_at "S"
    refine ws_newH ?_
    walk_at "RH"
    refine ⟨m, st, rs, tm, rfl, fun x nx => ?_⟩
    refine ws_seq ?_
    refine ws_forS (vs := [6]) ?_
    refine wi_list ?_
    walk_at "RH"
    refine ⟨fun i gx => ∃ hs : HSt, gx = (g, hs) ∧ TI m rs tm i hs ∧ (evs.drop i).foldl tellM hs = evs.foldl tellM ⟨m, rs, tm, firstStand st, 0, none⟩, ⟨_, rfl, ⟨rfl, rfl, rfl, fun _ => hb⟩, rfl⟩, ?_, ?_⟩
    · rintro i y gx hy ⟨hs, rfl, hi, hf⟩
      rw [List.getElem?_map] at hy
      cases he : evs[i]? with
      | none => rw [he] at hy; cases hy
      | some ev =>
        rw [he] at hy
        obtain rfl := Option.some.inj hy
        have hil : i < evs.length := (List.getElem?_eq_some_iff.mp he).1
        have hev : evs[i] = ev := (List.getElem?_eq_some_iff.mp he).2
        walk_at "W"
        walk_at "RH"
        refine we_mt nx (fun _ _ _ _ _ _ => hf_tell _ _ _ _ _ _) ?_
        walk_at "RH"
        have em := hi.em
        have er := hi.er
        refine ⟨by show hs.m.ok; rw [em]; exact hm, by show Rings.ok hs.m hs.rs; rw [em, er]; exact hr2, fun z => by show Sd.ok hs.m hs.sd; rw [em]; exact (hi.b z).ok (by omega), ?_⟩
        refine ⟨rfl, _, rfl, tell_inv hm hr2 hi ev, ?_⟩
        rw [← hf, List.drop_eq_getElem_cons hil, List.foldl_cons, hev]
    · rintro gx ⟨hs, rfl, hi, hf⟩
      rw [List.length_map] at hi hf
      rw [List.drop_length, List.foldl_nil] at hf
      walk_at "W"
      walk_at "RH"
      refine we_mt nx (fun _ _ _ _ _ _ => hf_parted _ _ _ _ _ _) ?_
      walk_at "RH"
      have q := fold_part evs ⟨m, rs, tm, firstStand st, 0, none⟩ rfl
      rw [← hf] at q
      show Φ (partD (hs.c.map fun c => (hs.n, c))) g
      rw [q]
      exact h
abbrev s__law_right : Stmt := top 61
theorem sc__law_right : FnScope ["found", "due"] ["found", "due"] (defScope s__law_right) := ⟨rfl, rfl, rfl, by decide +kernel, rfl, by decide +kernel, by decide +kernel⟩
theorem df__law_right (B : Bl mg) (F : FuD K mg "_law_right" ["found", "due"] s__law_right) : Df P w K mg base "_law_right" 1 ["found", "due"] (spD S__law_right) := by
  refine F.ok (n := 0) sc__law_right (fun G J es g Φ h => ?_) fun f cdv A outer s H E hr => ⟨_, (have hu := hu_of hr; (pss_cons (ps_if (pt_cmpR o_is (pv 1) pe_non (nomark _))
     (pss_one (ps_ret (pe_cmpR o_is (pv 0) pe_non (nomark _))))
     pss_nil)
     (pss_cons (ps_if (PW.pt (pw_or (pt_not (pt_val (pe_callB (k_isi (K := K) rfl) (by rfl) B.isinstance_ (by decide +kernel) (pa_cons (pv 0) (pa_cons (pe_bltn (by rfl) B.tuple_ (by decide +kernel) (show RelV (V.ty "tuple") _ from rfl)) pa_nil))))) (pw_or (pt_cmpR (k_ne (K := K) rfl hr.units) (pe_callB (k_len (K := K) rfl) (by rfl) B.len_ PySem.boot_len (pa_cons (pv 0) pa_nil)) pe_int (nomark _)) (pw_or1 (pt_not (pt_val (pe_callB (k_isi (K := K) rfl) (by rfl) B.isinstance_ (by decide +kernel) (pa_cons (pe_ix (k_ix (K := K) rfl) (pv 0) pe_int (fun _ _ => rfl)) (pa_cons (pe_bltn (by rfl) B.str_ (by decide +kernel) (show RelV (V.ty "str") _ from rfl)) pa_nil)))))))))
     (pss_one (ps_ret pe_bl))
     pss_nil)
     (pss_cons (ps_if (PW.pt (pw_or (pt_val (pe_callB (k_isi (K := K) rfl) (by rfl) B.isinstance_ (by decide +kernel) (pa_cons (pe_ix (k_ix (K := K) rfl) (pv 0) pe_int (fun _ _ => rfl)) (pa_cons (pe_bltn (by rfl) B.bool_ (by decide +kernel) (show RelV (V.ty "bool") _ from rfl)) pa_nil)))) (pw_or1 (pt_not (pt_val (pe_callB (k_isi (K := K) rfl) (by rfl) B.isinstance_ (by decide +kernel) (pa_cons (pe_ix (k_ix (K := K) rfl) (pv 0) pe_int (fun _ _ => rfl)) (pa_cons (pe_bltn (by rfl) B.int_ (by decide +kernel) (show RelV (V.ty "int") _ from rfl)) pa_nil))))))))
     (pss_one (ps_ret pe_bl))
     pss_nil)
     (pss_one (ps_ret (pe_and (pe_cmpR (k_eq (K := K) rfl hr.units) (pe_ix (k_ix (K := K) rfl) (pv 0) pe_int (fun _ _ => rfl)) (pe_ix (k_ix (K := K) rfl) (pv 1) pe_int (fun _ _ => rfl)) (nomark _)) (pe_one (pe_cmpR (k_eq (K := K) rfl hr.units) (pe_ix (k_ix (K := K) rfl) (pv 0) pe_int (fun _ _ => rfl)) (pe_ix (k_ix (K := K) rfl) (pv 1) pe_int (fun _ _ => rfl)) (nomark _)))))))))), fun G J es g Φ h => ?_⟩
  · obtain ⟨a, b, rfl, _⟩ := h
    rfl
  · obtain ⟨a, b, rfl, h⟩ := h
    walk_at "S"
    rcases b with _ | ⟨b1, b2⟩ <;> rcases a with _ | ⟨a1, a2⟩
    case none.none =>
      walk_at "RN"
      simpa [isN] using h
    case none.some =>
      walk_at "RN"
      simpa [isN] using h
    case some.none =>
      walk_at "RN"
      refine rc_isi_n rfl ?_
      walk_at "RN"
      simpa using h
    case some.some =>
      walk_at "RN"
      refine rc_isi_t rfl ?_
      walk_at "RN"
      refine rc_isi_s rfl ?_
      walk_at "RN"
      refine rc_isi_i rfl ?_
      walk_at "RN"
      refine rc_isi_i rfl ?_
      walk_at "RN"

      refine ⟨fun e => ?_, fun e => ?_⟩
      · have e' : a1 = b1 := of_decide_eq_true e
        subst e'
        walk_at "RN"
        simpa using h
      · have e' : ¬ a1 = b1 := of_decide_eq_false e
        simpa [e'] using h
abbrev s_law : Stmt := top 62
theorem sc_law : FnScope ["script", "bag", "mill", "state", "base", "rings", "terms", "diary", "due", "told", "handed", "found"] ["script"] (defScope s_law) := ⟨rfl, rfl, rfl, by decide +kernel, rfl, by decide +kernel, by decide +kernel⟩
theorem df_law (B : Bl mg) (D__law_bag : Df P w K mg base "_law_bag" 1 ["script"] (spBag K)) (D__law_mill : Df P w K mg base "_law_mill" 4 ["bag"] (spD S__law_mill)) (D__law_state : Df P w K mg base "_law_state" 3 ["bag", "mill"] (spD S__law_state)) (D__law_draw : Df P w K mg base "_law_draw" 1 ["bag", "many"] (spD S__law_draw)) (D__law_far : Df P w K mg base "_law_far" 2 ["bag"] (spD S__law_far)) (D__law_rings : Df P w K mg base "_law_rings" 3 ["bag", "mill", "base"] (spD S__law_rings)) (D__law_terms : Df P w K mg base "_law_terms" 3 ["bag"] (spD S__law_terms)) (D__law_begin : Df P w K mg base "_law_begin" 1 ["state"] spBegin) (D__law_tale : Df P w K mg base "_law_tale" 6 ["bag", "mill", "rings", "terms", "now", "base"] (spDN S__law_tale)) (D_parting : Df P w K mg base "parting" 8 ["mill", "state", "rings", "terms", "diary"] (spD S_parting)) (D__law_right : Df P w K mg base "_law_right" 1 ["found", "due"] (spD S__law_right)) {f0 : Addr} {fd0 : FuncData} (F : Fun K "law" "law" s_law f0 fd0) : FnOk P w K mg base CX0 10 f0 fd0 ["script"] (spLaw K) := by
  refine funR F (n := 9) sc_law (fun vs H Q E h => ?_) fun f cdv A outer s H E hr => ⟨_, (have hu := hu_of hr; (pss_cons (ps_set (i := 1) sc_law.nd rfl (Or.inl rfl) (pe_df D__law_bag (hr.mono (by decide)) (by rfl) (pa_cons (pv 0) pa_nil)))
     (pss_cons (ps_set (i := 2) sc_law.nd rfl (Or.inl rfl) (pe_df D__law_mill (hr.mono (by decide)) (by rfl) (pa_cons (pv 1) pa_nil)))
     (pss_cons (ps_set (i := 3) sc_law.nd rfl (Or.inl rfl) (pe_df D__law_state (hr.mono (by decide)) (by rfl) (pa_cons (pv 1) (pa_cons (pv 2) pa_nil))))
     (pss_cons (ps_set (i := 4) sc_law.nd rfl (Or.inl rfl) (pe_ix (k_ix (K := K) rfl) (pe_lst (pa_cons pe_int (pa_cons pe_int (pa_cons (pe_df D__law_draw (hr.mono (by decide)) (by rfl) (pa_cons (pv 1) (pa_cons pe_int pa_nil))) (pa_cons (pe_df D__law_far (hr.mono (by decide)) (by rfl) (pa_cons (pv 1) pa_nil)) pa_nil))))) (pe_df D__law_draw (hr.mono (by decide)) (by rfl) (pa_cons (pv 1) (pa_cons pe_int pa_nil))) (fun _ _ => rfl)))
     (pss_cons (ps_set (i := 5) sc_law.nd rfl (Or.inl rfl) (pe_df D__law_rings (hr.mono (by decide)) (by rfl) (pa_cons (pv 1) (pa_cons (pv 2) (pa_cons (pv 4) pa_nil)))))
     (pss_cons (ps_set (i := 6) sc_law.nd rfl (Or.inl rfl) (pe_df D__law_terms (hr.mono (by decide)) (by rfl) (pa_cons (pv 1) pa_nil)))
     (pss_cons (ps_asg (pe_df D__law_tale (hr.mono (by decide)) (by rfl) (pa_cons (pv 1) (pa_cons (pv 2) (pa_cons (pv 5) (pa_cons (pv 6) (pa_cons (pe_df D__law_begin (hr.mono (by decide)) (by rfl) (pa_cons (pv 3) pa_nil)) (pa_cons (pv 4) pa_nil))))))) (k_tg (K := K) (n := 2) rfl rfl (pgs_cons (pg_name (i := 7) sc_law.nd rfl (Or.inl rfl)) (pgs_cons (pg_name (i := 8) sc_law.nd rfl (Or.inl rfl)) pgs_nil))))
     (pss_cons (ps_set (i := 9) sc_law.nd rfl (Or.inl rfl) (pe_callTy (k_lst (K := K) rfl) (by rfl) B.list_ (by decide +kernel) (pa_cons (pv 7) pa_nil)))
     (pss_cons (ps_set (i := 10) sc_law.nd rfl (Or.inl rfl) (pe_callTy (k_lst (K := K) rfl) (by rfl) B.list_ (by decide +kernel) (pa_cons (pv 5) pa_nil)))
     (pss_cons (ps_set (i := 11) sc_law.nd rfl (Or.inl rfl) (pe_df D_parting (hr.mono (by decide)) (by rfl) (pa_cons (pv 2) (pa_cons (pv 3) (pa_cons (pv 10) (pa_cons (pv 6) (pa_cons (pv 9) pa_nil)))))))
     (pss_one (ps_ret (pe_and (pe_df D__law_right (hr.mono (by decide)) (by rfl) (pa_cons (pv 11) (pa_cons (pv 8) pa_nil))) (pe_and (pe_cmpR (k_eq (K := K) rfl hr.units) (pv 9) (pv 7) (nomark _)) (pe_one (pe_cmpR (k_eq (K := K) rfl hr.units) (pv 10) (pv 5) (nomark _)))))))))))))))))), fun vs Q h D dnx drt => ?_⟩
  · obtain ⟨a, ns, rfl, _⟩ := h
    rfl
  · obtain ⟨a, ns, rfl, hS, hn, q⟩ := h
    have hD : ∀ H', D.rt (.bl true) H' := fun H' => drt _ _ (q H')
    refine ⟨_, rfl, ?_⟩
    refine ⟨H, a, ns, rfl, fun H' s => ?_, hn, Same.refl _, fun b gr fold F1 H1 ne f0 f1 s1 oB => ?_⟩
    · rcases hS with hS | hS
      · exact .inl (rd_same s hS)
      · exact .inr hS
    have B := bagN ne f0 f1
    have e0 : Env F1 [some (.ref a), some (.ref b), none, none, none, none, none, none, none, none, none, none] [some (.raw (.ref a)), some (.raw (.ref b)), none, none, none, none, none, none, none, none, none, none] := .ens (.raw _) (.ens (.raw _) (.enn (.enn (.enn (.enn (.enn (.enn (.enn (.enn (.enn (.enn .en0)))))))))))
    have key : ∀ t, WSr (bagT b gr fold) [some (.raw (.ref a)), some (.raw (.ref b)), none, none, none, none, none, none, none, none, none, none] (0 : Nat) t D → t D [some (.ref a), some (.ref b), none, none, none, none, none, none, none, none, none, none] H1 := fun t hw => hw F1 H1 _ oB e0
    show (tSeq (tAsg (tCall (spD S__law_mill) [] E0 (tCons (tVar 1) tNil)) (gName 2)) (tSeq _ (tSeq _ _))) D [some (.ref a), some (.ref b), none, none, none, none, none, none, none, none, none, none] H1
    refine key _ ?_
    show WSr (bagT b gr fold) _ (bmpN 0 0) _ D
    refine wsr_seq ?_
    walk_at "RB"
    refine ⟨(), _, _, rfl, rfl, True.intro, by omega, ?_⟩
    rintro _ n1 n10 n11 ⟨m, rfl, hm⟩
    refine wsr_seq ?_
    walk_at "RB"
    refine ⟨m, _, _, rfl, rfl, hm, by omega, ?_⟩
    rintro _ n2 n20 n21 ⟨st, rfl, hst⟩
    refine wsr_seq ?_
    walk_at "RB"

    refine ⟨(), _, _, rfl, rfl, True.intro, by omega, ?_⟩
    rintro _ n3 _ _ ⟨fr, rfl, hfr⟩
    walk_at "RB"

    rename_i y y0 y1
    refine ex_any ⟨y0, by simpa using y1, fun d hd => ?_⟩
    obtain ⟨bs, rfl⟩ : ∃ z, d = .int z := by
      simp only [List.mem_cons, List.not_mem_nil, or_false] at hd
      rcases hd with rfl | rfl | rfl | rfl <;> exact ⟨_, rfl⟩
    walk_at "RB"

    refine wsr_seq ?_
    walk_at "RB"
    refine ⟨(m, bs), _, _, rfl, rfl, hm, by omega, ?_⟩
    rintro _ n4 n40 n41 ⟨rs, rfl, hrs⟩
    refine wsr_seq ?_
    walk_at "RB"
    refine ⟨(), _, _, rfl, rfl, True.intro, by omega, ?_⟩
    rintro _ n5 n50 n51 ⟨tm, rfl⟩
    intro F2 H2 σ2 o2 e2
    obtain ⟨v1, h1, d1⟩ := e2.get (i := 1) rfl
    obtain ⟨v2, h2, d2⟩ := e2.get (i := 2) rfl
    obtain ⟨v3, h3, d3⟩ := e2.get (i := 3) rfl
    obtain ⟨v4, h4, d4⟩ := e2.get (i := 4) rfl
    obtain ⟨v5, h5, d5⟩ := e2.get (i := 5) rfl
    obtain ⟨v6, h6, d6⟩ := e2.get (i := 6) rfl
    refine ⟨v1, h1, v2, h2, v5, h5, v6, h6, v3, h3, ?_⟩
    refine ⟨Nat, bagT b gr fold, F2, bmpN 0 n5, v3, st, o2, rfl, d3, fun a2 ps H3 o3 N3 => ?_⟩
    refine ⟨v4, h4, ?_⟩
    refine ⟨Nat, bagT b gr fold, F2, bmpN 0 n5, a2, ps, firstStand st, _, fun d g' sd' => ∃ evs : List Ev, evs.length ≤ 100 ∧ d = .tup [.lst (evs.map evD), partD (part m rs tm 0 (firstStand st) evs)], bagT_free, o3, N3,
      .cons d1 (.cons d2 (.cons d5 (.cons d6 (.cons (.raw (.ref a2)) (.cons d4 .nil))))), ⟨b, gr, fold, _, bmpN, m, rs, tm, bs, B, rfl, hm, hrs, ⟨hst, Nat.le_refl _, Nat.le_refl _, Nat.le_refl _⟩, by show n5 ≤ 10000; omega, fun evs hl g' sd' => ⟨evs, hl, rfl⟩⟩, ?_⟩
    rintro v d F4 H4 g4 sd4 ps4 ⟨evs, hl, rfl⟩ o4 N4 s4 dv
    have e4 := e2.mono s4
    have wg : WG (bagT b gr fold) [some (.raw (.ref a)), some (.raw (.ref b)), some (millD m), some (sttD st), some (.int bs), some (ringsD rs), some (tmD tm), none, none, none, none, none] g4 (gTup K 2 (gCons (gName 7) (gCons (gName 8) gNil))) (.tup [.lst (evs.map evD), partD (part m rs tm 0 (firstStand st) evs)])
        (fun ds' g' => ds' = [some (.raw (.ref a)), some (.raw (.ref b)), some (millD m), some (sttD st), some (.int bs), some (ringsD rs), some (tmD tm), some (.lst (evs.map evD)), some (partD (part m rs tm 0 (firstStand st) evs)), none, none, none]) := by
      refine wg_tup ⟨rfl, ?_⟩
      refine wgs_cons ?_
      refine wg_name ?_
      refine wgs_cons ?_
      refine wg_name ?_
      refine wgs_nil ?_
      rfl
    refine wg F4 H4 σ2 v o4 e4 dv _ ?_
    rintro σ5 ds5 F5 H5 g5 rfl o5 t5 e5
    have key2 : ∀ t, WSr (bagT b gr fold) [some (.raw (.ref a)), some (.raw (.ref b)), some (millD m), some (sttD st), some (.int bs), some (ringsD rs), some (tmD tm), some (.lst (evs.map evD)), some (partD (part m rs tm 0 (firstStand st) evs)), none, none, none] g5 t D → t D σ5 H5 := fun t hw => hw F5 H5 _ o5 e5
    show (tSeq (tAsg (tCB (rLstU K) (tCons (tVar 7) tNil)) (gName 9)) (tSeq _ _)) D σ5 H5
    refine key2 _ ?_
    refine wsr_seq ?_
    walk_at "RN"
    refine rc_lst_l ?_
    refine wsr_seq ?_
    walk_at "RN"
    refine rc_lst_l ?_
    refine wsr_seq ?_
    walk_at "RN"
    refine ⟨m, st, rs, tm, evs, rfl, hm, hrs, ⟨hst, Nat.le_refl _, Nat.le_refl _, Nat.le_refl _⟩, hl, ?_⟩
    refine wsr_last hD ?_
    walk_at "RN"
    refine ro_eq_self 3 (by decide) (by simpa [okPy] using ok_evs evs) ?_
    walk_at "RN"
    refine ro_eq_self 2 (by decide) (by simpa [okPy] using ok_rings rs) ?_
    walk_at "RN"
    rfl
end
end TM
/-! What the written part holds, and the law's promise. -/
namespace TM
open PySem PySem.Spec L2
section
variable {K : PySem.W.Frag} {h : Heap} {mg : Str → Option Value}
theorem fu__law_bag (X : K.In h) (G : h.Ns mainGlobals mg) {f : Addr} {oc kV dc pm cd ct : Value} {od an : Option Addr} {sl : Array (Option Value)} (a : PySem.W.nsIn K mainGlobals "_law_bag" = some (some (.ref f))) (l : K.lookup f = some ⟨oc, od, .func (PySem.W.fnOf "_law_bag" "_law_bag" (defArgs s__law_bag) (defBody s__law_bag) (defScope s__law_bag) .none kV dc pm an cd ct), sl⟩) (c : PySem.W.codeIn K cd "_law_bag" = true) (k : PySem.W.keepIn K (.ref f) = true) : FuD K mg "_law_bag" ["script"] s__law_bag :=
  ⟨⟨_, _, fun_mk (st := s__law_bag) l c k, PySem.W.mg_of X G a, (fun_mk (st := s__law_bag) l c k).binds (ps := ["script"]) fun _ _ _ _ _ _ us hl => match us, hl with | [_], _ => rfl⟩⟩
theorem fu__law_draw (X : K.In h) (G : h.Ns mainGlobals mg) {f : Addr} {oc kV dc pm cd ct : Value} {od an : Option Addr} {sl : Array (Option Value)} (a : PySem.W.nsIn K mainGlobals "_law_draw" = some (some (.ref f))) (l : K.lookup f = some ⟨oc, od, .func (PySem.W.fnOf "_law_draw" "_law_draw" (defArgs s__law_draw) (defBody s__law_draw) (defScope s__law_draw) .none kV dc pm an cd ct), sl⟩) (c : PySem.W.codeIn K cd "_law_draw" = true) (k : PySem.W.keepIn K (.ref f) = true) : FuD K mg "_law_draw" ["bag", "many"] s__law_draw :=
  ⟨⟨_, _, fun_mk (st := s__law_draw) l c k, PySem.W.mg_of X G a, (fun_mk (st := s__law_draw) l c k).binds (ps := ["bag", "many"]) fun _ _ _ _ _ _ us hl => match us, hl with | [_, _], _ => rfl⟩⟩
theorem fu__law_worth (X : K.In h) (G : h.Ns mainGlobals mg) {f : Addr} {oc kV dc pm cd ct : Value} {od an : Option Addr} {sl : Array (Option Value)} (a : PySem.W.nsIn K mainGlobals "_law_worth" = some (some (.ref f))) (l : K.lookup f = some ⟨oc, od, .func (PySem.W.fnOf "_law_worth" "_law_worth" (defArgs s__law_worth) (defBody s__law_worth) (defScope s__law_worth) .none kV dc pm an cd ct), sl⟩) (c : PySem.W.codeIn K cd "_law_worth" = true) (k : PySem.W.keepIn K (.ref f) = true) : FuD K mg "_law_worth" ["bag"] s__law_worth :=
  ⟨⟨_, _, fun_mk (st := s__law_worth) l c k, PySem.W.mg_of X G a, (fun_mk (st := s__law_worth) l c k).binds (ps := ["bag"]) fun _ _ _ _ _ _ us hl => match us, hl with | [_], _ => rfl⟩⟩
theorem fu__law_row (X : K.In h) (G : h.Ns mainGlobals mg) {f : Addr} {oc kV dc pm cd ct : Value} {od an : Option Addr} {sl : Array (Option Value)} (a : PySem.W.nsIn K mainGlobals "_law_row" = some (some (.ref f))) (l : K.lookup f = some ⟨oc, od, .func (PySem.W.fnOf "_law_row" "_law_row" (defArgs s__law_row) (defBody s__law_row) (defScope s__law_row) .none kV dc pm an cd ct), sl⟩) (c : PySem.W.codeIn K cd "_law_row" = true) (k : PySem.W.keepIn K (.ref f) = true) : FuD K mg "_law_row" ["bag", "many", "spots"] s__law_row :=
  ⟨⟨_, _, fun_mk (st := s__law_row) l c k, PySem.W.mg_of X G a, (fun_mk (st := s__law_row) l c k).binds (ps := ["bag", "many", "spots"]) fun _ _ _ _ _ _ us hl => match us, hl with | [_, _, _], _ => rfl⟩⟩
theorem fu__law_mill (X : K.In h) (G : h.Ns mainGlobals mg) {f : Addr} {oc kV dc pm cd ct : Value} {od an : Option Addr} {sl : Array (Option Value)} (a : PySem.W.nsIn K mainGlobals "_law_mill" = some (some (.ref f))) (l : K.lookup f = some ⟨oc, od, .func (PySem.W.fnOf "_law_mill" "_law_mill" (defArgs s__law_mill) (defBody s__law_mill) (defScope s__law_mill) .none kV dc pm an cd ct), sl⟩) (c : PySem.W.codeIn K cd "_law_mill" = true) (k : PySem.W.keepIn K (.ref f) = true) : FuD K mg "_law_mill" ["bag"] s__law_mill :=
  ⟨⟨_, _, fun_mk (st := s__law_mill) l c k, PySem.W.mg_of X G a, (fun_mk (st := s__law_mill) l c k).binds (ps := ["bag"]) fun _ _ _ _ _ _ us hl => match us, hl with | [_], _ => rfl⟩⟩
theorem fu__law_state (X : K.In h) (G : h.Ns mainGlobals mg) {f : Addr} {oc kV dc pm cd ct : Value} {od an : Option Addr} {sl : Array (Option Value)} (a : PySem.W.nsIn K mainGlobals "_law_state" = some (some (.ref f))) (l : K.lookup f = some ⟨oc, od, .func (PySem.W.fnOf "_law_state" "_law_state" (defArgs s__law_state) (defBody s__law_state) (defScope s__law_state) .none kV dc pm an cd ct), sl⟩) (c : PySem.W.codeIn K cd "_law_state" = true) (k : PySem.W.keepIn K (.ref f) = true) : FuD K mg "_law_state" ["bag", "mill"] s__law_state :=
  ⟨⟨_, _, fun_mk (st := s__law_state) l c k, PySem.W.mg_of X G a, (fun_mk (st := s__law_state) l c k).binds (ps := ["bag", "mill"]) fun _ _ _ _ _ _ us hl => match us, hl with | [_, _], _ => rfl⟩⟩
theorem fu__law_far (X : K.In h) (G : h.Ns mainGlobals mg) {f : Addr} {oc kV dc pm cd ct : Value} {od an : Option Addr} {sl : Array (Option Value)} (a : PySem.W.nsIn K mainGlobals "_law_far" = some (some (.ref f))) (l : K.lookup f = some ⟨oc, od, .func (PySem.W.fnOf "_law_far" "_law_far" (defArgs s__law_far) (defBody s__law_far) (defScope s__law_far) .none kV dc pm an cd ct), sl⟩) (c : PySem.W.codeIn K cd "_law_far" = true) (k : PySem.W.keepIn K (.ref f) = true) : FuD K mg "_law_far" ["bag"] s__law_far :=
  ⟨⟨_, _, fun_mk (st := s__law_far) l c k, PySem.W.mg_of X G a, (fun_mk (st := s__law_far) l c k).binds (ps := ["bag"]) fun _ _ _ _ _ _ us hl => match us, hl with | [_], _ => rfl⟩⟩
theorem fu__law_rings (X : K.In h) (G : h.Ns mainGlobals mg) {f : Addr} {oc kV dc pm cd ct : Value} {od an : Option Addr} {sl : Array (Option Value)} (a : PySem.W.nsIn K mainGlobals "_law_rings" = some (some (.ref f))) (l : K.lookup f = some ⟨oc, od, .func (PySem.W.fnOf "_law_rings" "_law_rings" (defArgs s__law_rings) (defBody s__law_rings) (defScope s__law_rings) .none kV dc pm an cd ct), sl⟩) (c : PySem.W.codeIn K cd "_law_rings" = true) (k : PySem.W.keepIn K (.ref f) = true) : FuD K mg "_law_rings" ["bag", "mill", "base"] s__law_rings :=
  ⟨⟨_, _, fun_mk (st := s__law_rings) l c k, PySem.W.mg_of X G a, (fun_mk (st := s__law_rings) l c k).binds (ps := ["bag", "mill", "base"]) fun _ _ _ _ _ _ us hl => match us, hl with | [_, _, _], _ => rfl⟩⟩
theorem fu__law_terms (X : K.In h) (G : h.Ns mainGlobals mg) {f : Addr} {oc kV dc pm cd ct : Value} {od an : Option Addr} {sl : Array (Option Value)} (a : PySem.W.nsIn K mainGlobals "_law_terms" = some (some (.ref f))) (l : K.lookup f = some ⟨oc, od, .func (PySem.W.fnOf "_law_terms" "_law_terms" (defArgs s__law_terms) (defBody s__law_terms) (defScope s__law_terms) .none kV dc pm an cd ct), sl⟩) (c : PySem.W.codeIn K cd "_law_terms" = true) (k : PySem.W.keepIn K (.ref f) = true) : FuD K mg "_law_terms" ["bag"] s__law_terms :=
  ⟨⟨_, _, fun_mk (st := s__law_terms) l c k, PySem.W.mg_of X G a, (fun_mk (st := s__law_terms) l c k).binds (ps := ["bag"]) fun _ _ _ _ _ _ us hl => match us, hl with | [_], _ => rfl⟩⟩
theorem fu__law_begin (X : K.In h) (G : h.Ns mainGlobals mg) {f : Addr} {oc kV dc pm cd ct : Value} {od an : Option Addr} {sl : Array (Option Value)} (a : PySem.W.nsIn K mainGlobals "_law_begin" = some (some (.ref f))) (l : K.lookup f = some ⟨oc, od, .func (PySem.W.fnOf "_law_begin" "_law_begin" (defArgs s__law_begin) (defBody s__law_begin) (defScope s__law_begin) .none kV dc pm an cd ct), sl⟩) (c : PySem.W.codeIn K cd "_law_begin" = true) (k : PySem.W.keepIn K (.ref f) = true) : FuD K mg "_law_begin" ["state"] s__law_begin :=
  ⟨⟨_, _, fun_mk (st := s__law_begin) l c k, PySem.W.mg_of X G a, (fun_mk (st := s__law_begin) l c k).binds (ps := ["state"]) fun _ _ _ _ _ _ us hl => match us, hl with | [_], _ => rfl⟩⟩
theorem fu__law_waits (X : K.In h) (G : h.Ns mainGlobals mg) {f : Addr} {oc kV dc pm cd ct : Value} {od an : Option Addr} {sl : Array (Option Value)} (a : PySem.W.nsIn K mainGlobals "_law_waits" = some (some (.ref f))) (l : K.lookup f = some ⟨oc, od, .func (PySem.W.fnOf "_law_waits" "_law_waits" (defArgs s__law_waits) (defBody s__law_waits) (defScope s__law_waits) .none kV dc pm an cd ct), sl⟩) (c : PySem.W.codeIn K cd "_law_waits" = true) (k : PySem.W.keepIn K (.ref f) = true) : FuD K mg "_law_waits" ["rings", "now", "beat"] s__law_waits :=
  ⟨⟨_, _, fun_mk (st := s__law_waits) l c k, PySem.W.mg_of X G a, (fun_mk (st := s__law_waits) l c k).binds (ps := ["rings", "now", "beat"]) fun _ _ _ _ _ _ us hl => match us, hl with | [_, _, _], _ => rfl⟩⟩
theorem fu__law_due (X : K.In h) (G : h.Ns mainGlobals mg) {f : Addr} {oc kV dc pm cd ct : Value} {od an : Option Addr} {sl : Array (Option Value)} (a : PySem.W.nsIn K mainGlobals "_law_due" = some (some (.ref f))) (l : K.lookup f = some ⟨oc, od, .func (PySem.W.fnOf "_law_due" "_law_due" (defArgs s__law_due) (defBody s__law_due) (defScope s__law_due) .none kV dc pm an cd ct), sl⟩) (c : PySem.W.codeIn K cd "_law_due" = true) (k : PySem.W.keepIn K (.ref f) = true) : FuD K mg "_law_due" ["row", "now"] s__law_due :=
  ⟨⟨_, _, fun_mk (st := s__law_due) l c k, PySem.W.mg_of X G a, (fun_mk (st := s__law_due) l c k).binds (ps := ["row", "now"]) fun _ _ _ _ _ _ us hl => match us, hl with | [_, _], _ => rfl⟩⟩
theorem fu__law_end_cause (X : K.In h) (G : h.Ns mainGlobals mg) {f : Addr} {oc kV dc pm cd ct : Value} {od an : Option Addr} {sl : Array (Option Value)} (a : PySem.W.nsIn K mainGlobals "_law_end_cause" = some (some (.ref f))) (l : K.lookup f = some ⟨oc, od, .func (PySem.W.fnOf "_law_end_cause" "_law_end_cause" (defArgs s__law_end_cause) (defBody s__law_end_cause) (defScope s__law_end_cause) .none kV dc pm an cd ct), sl⟩) (c : PySem.W.codeIn K cd "_law_end_cause" = true) (k : PySem.W.keepIn K (.ref f) = true) : FuD K mg "_law_end_cause" ["mill", "rings", "terms", "now", "event"] s__law_end_cause :=
  ⟨⟨_, _, fun_mk (st := s__law_end_cause) l c k, PySem.W.mg_of X G a, (fun_mk (st := s__law_end_cause) l c k).binds (ps := ["mill", "rings", "terms", "now", "event"]) fun _ _ _ _ _ _ us hl => match us, hl with | [_, _, _, _, _], _ => rfl⟩⟩
theorem fu__law_cause (X : K.In h) (G : h.Ns mainGlobals mg) {f : Addr} {oc kV dc pm cd ct : Value} {od an : Option Addr} {sl : Array (Option Value)} (a : PySem.W.nsIn K mainGlobals "_law_cause" = some (some (.ref f))) (l : K.lookup f = some ⟨oc, od, .func (PySem.W.fnOf "_law_cause" "_law_cause" (defArgs s__law_cause) (defBody s__law_cause) (defScope s__law_cause) .none kV dc pm an cd ct), sl⟩) (c : PySem.W.codeIn K cd "_law_cause" = true) (k : PySem.W.keepIn K (.ref f) = true) : FuD K mg "_law_cause" ["mill", "rings", "terms", "now", "event"] s__law_cause :=
  ⟨⟨_, _, fun_mk (st := s__law_cause) l c k, PySem.W.mg_of X G a, (fun_mk (st := s__law_cause) l c k).binds (ps := ["mill", "rings", "terms", "now", "event"]) fun _ _ _ _ _ _ us hl => match us, hl with | [_, _, _, _, _], _ => rfl⟩⟩
theorem fu__law_sure (X : K.In h) (G : h.Ns mainGlobals mg) {f : Addr} {oc kV dc pm cd ct : Value} {od an : Option Addr} {sl : Array (Option Value)} (a : PySem.W.nsIn K mainGlobals "_law_sure" = some (some (.ref f))) (l : K.lookup f = some ⟨oc, od, .func (PySem.W.fnOf "_law_sure" "_law_sure" (defArgs s__law_sure) (defBody s__law_sure) (defScope s__law_sure) .none kV dc pm an cd ct), sl⟩) (c : PySem.W.codeIn K cd "_law_sure" = true) (k : PySem.W.keepIn K (.ref f) = true) : FuD K mg "_law_sure" ["mill", "rings", "terms", "now"] s__law_sure :=
  ⟨⟨_, _, fun_mk (st := s__law_sure) l c k, PySem.W.mg_of X G a, (fun_mk (st := s__law_sure) l c k).binds (ps := ["mill", "rings", "terms", "now"]) fun _ _ _ _ _ _ us hl => match us, hl with | [_, _, _, _], _ => rfl⟩⟩
theorem fu__law_some (X : K.In h) (G : h.Ns mainGlobals mg) {f : Addr} {oc kV dc pm cd ct : Value} {od an : Option Addr} {sl : Array (Option Value)} (a : PySem.W.nsIn K mainGlobals "_law_some" = some (some (.ref f))) (l : K.lookup f = some ⟨oc, od, .func (PySem.W.fnOf "_law_some" "_law_some" (defArgs s__law_some) (defBody s__law_some) (defScope s__law_some) .none kV dc pm an cd ct), sl⟩) (c : PySem.W.codeIn K cd "_law_some" = true) (k : PySem.W.keepIn K (.ref f) = true) : FuD K mg "_law_some" ["bag", "mill", "rings", "terms", "now", "base"] s__law_some :=
  ⟨⟨_, _, fun_mk (st := s__law_some) l c k, PySem.W.mg_of X G a, (fun_mk (st := s__law_some) l c k).binds (ps := ["bag", "mill", "rings", "terms", "now", "base"]) fun _ _ _ _ _ _ us hl => match us, hl with | [_, _, _, _, _, _], _ => rfl⟩⟩
theorem fu__law_wild (X : K.In h) (G : h.Ns mainGlobals mg) {f : Addr} {oc kV dc pm cd ct : Value} {od an : Option Addr} {sl : Array (Option Value)} (a : PySem.W.nsIn K mainGlobals "_law_wild" = some (some (.ref f))) (l : K.lookup f = some ⟨oc, od, .func (PySem.W.fnOf "_law_wild" "_law_wild" (defArgs s__law_wild) (defBody s__law_wild) (defScope s__law_wild) .none kV dc pm an cd ct), sl⟩) (c : PySem.W.codeIn K cd "_law_wild" = true) (k : PySem.W.keepIn K (.ref f) = true) : FuD K mg "_law_wild" ["bag", "now"] s__law_wild :=
  ⟨⟨_, _, fun_mk (st := s__law_wild) l c k, PySem.W.mg_of X G a, (fun_mk (st := s__law_wild) l c k).binds (ps := ["bag", "now"]) fun _ _ _ _ _ _ us hl => match us, hl with | [_, _], _ => rfl⟩⟩
theorem fu__law_other_number (X : K.In h) (G : h.Ns mainGlobals mg) {f : Addr} {oc kV dc pm cd ct : Value} {od an : Option Addr} {sl : Array (Option Value)} (a : PySem.W.nsIn K mainGlobals "_law_other_number" = some (some (.ref f))) (l : K.lookup f = some ⟨oc, od, .func (PySem.W.fnOf "_law_other_number" "_law_other_number" (defArgs s__law_other_number) (defBody s__law_other_number) (defScope s__law_other_number) .none kV dc pm an cd ct), sl⟩) (c : PySem.W.codeIn K cd "_law_other_number" = true) (k : PySem.W.keepIn K (.ref f) = true) : FuD K mg "_law_other_number" ["bag", "number"] s__law_other_number :=
  ⟨⟨_, _, fun_mk (st := s__law_other_number) l c k, PySem.W.mg_of X G a, (fun_mk (st := s__law_other_number) l c k).binds (ps := ["bag", "number"]) fun _ _ _ _ _ _ us hl => match us, hl with | [_, _], _ => rfl⟩⟩
theorem fu__law_other_wrote (X : K.In h) (G : h.Ns mainGlobals mg) {f : Addr} {oc kV dc pm cd ct : Value} {od an : Option Addr} {sl : Array (Option Value)} (a : PySem.W.nsIn K mainGlobals "_law_other_wrote" = some (some (.ref f))) (l : K.lookup f = some ⟨oc, od, .func (PySem.W.fnOf "_law_other_wrote" "_law_other_wrote" (defArgs s__law_other_wrote) (defBody s__law_other_wrote) (defScope s__law_other_wrote) .none kV dc pm an cd ct), sl⟩) (c : PySem.W.codeIn K cd "_law_other_wrote" = true) (k : PySem.W.keepIn K (.ref f) = true) : FuD K mg "_law_other_wrote" ["bag", "wrote", "due"] s__law_other_wrote :=
  ⟨⟨_, _, fun_mk (st := s__law_other_wrote) l c k, PySem.W.mg_of X G a, (fun_mk (st := s__law_other_wrote) l c k).binds (ps := ["bag", "wrote", "due"]) fun _ _ _ _ _ _ us hl => match us, hl with | [_, _, _], _ => rfl⟩⟩
theorem fu__law_spoilt (X : K.In h) (G : h.Ns mainGlobals mg) {f : Addr} {oc kV dc pm cd ct : Value} {od an : Option Addr} {sl : Array (Option Value)} (a : PySem.W.nsIn K mainGlobals "_law_spoilt" = some (some (.ref f))) (l : K.lookup f = some ⟨oc, od, .func (PySem.W.fnOf "_law_spoilt" "_law_spoilt" (defArgs s__law_spoilt) (defBody s__law_spoilt) (defScope s__law_spoilt) .none kV dc pm an cd ct), sl⟩) (c : PySem.W.codeIn K cd "_law_spoilt" = true) (k : PySem.W.keepIn K (.ref f) = true) : FuD K mg "_law_spoilt" ["bag", "mill", "terms", "now", "event"] s__law_spoilt :=
  ⟨⟨_, _, fun_mk (st := s__law_spoilt) l c k, PySem.W.mg_of X G a, (fun_mk (st := s__law_spoilt) l c k).binds (ps := ["bag", "mill", "terms", "now", "event"]) fun _ _ _ _ _ _ us hl => match us, hl with | [_, _, _, _, _], _ => rfl⟩⟩
theorem fu__law_goes (X : K.In h) (G : h.Ns mainGlobals mg) {f : Addr} {oc kV dc pm cd ct : Value} {od an : Option Addr} {sl : Array (Option Value)} (a : PySem.W.nsIn K mainGlobals "_law_goes" = some (some (.ref f))) (l : K.lookup f = some ⟨oc, od, .func (PySem.W.fnOf "_law_goes" "_law_goes" (defArgs s__law_goes) (defBody s__law_goes) (defScope s__law_goes) .none kV dc pm an cd ct), sl⟩) (c : PySem.W.codeIn K cd "_law_goes" = true) (k : PySem.W.keepIn K (.ref f) = true) : FuD K mg "_law_goes" ["row", "now"] s__law_goes :=
  ⟨⟨_, _, fun_mk (st := s__law_goes) l c k, PySem.W.mg_of X G a, (fun_mk (st := s__law_goes) l c k).binds (ps := ["row", "now"]) fun _ _ _ _ _ _ us hl => match us, hl with | [_, _], _ => rfl⟩⟩
theorem fu__law_take_up (X : K.In h) (G : h.Ns mainGlobals mg) {f : Addr} {oc kV dc pm cd ct : Value} {od an : Option Addr} {sl : Array (Option Value)} (a : PySem.W.nsIn K mainGlobals "_law_take_up" = some (some (.ref f))) (l : K.lookup f = some ⟨oc, od, .func (PySem.W.fnOf "_law_take_up" "_law_take_up" (defArgs s__law_take_up) (defBody s__law_take_up) (defScope s__law_take_up) .none kV dc pm an cd ct), sl⟩) (c : PySem.W.codeIn K cd "_law_take_up" = true) (k : PySem.W.keepIn K (.ref f) = true) : FuD K mg "_law_take_up" ["mill", "rings", "now", "event"] s__law_take_up :=
  ⟨⟨_, _, fun_mk (st := s__law_take_up) l c k, PySem.W.mg_of X G a, (fun_mk (st := s__law_take_up) l c k).binds (ps := ["mill", "rings", "now", "event"]) fun _ _ _ _ _ _ us hl => match us, hl with | [_, _, _, _], _ => rfl⟩⟩
theorem fu__law_tale (X : K.In h) (G : h.Ns mainGlobals mg) {f : Addr} {oc kV dc pm cd ct : Value} {od an : Option Addr} {sl : Array (Option Value)} (a : PySem.W.nsIn K mainGlobals "_law_tale" = some (some (.ref f))) (l : K.lookup f = some ⟨oc, od, .func (PySem.W.fnOf "_law_tale" "_law_tale" (defArgs s__law_tale) (defBody s__law_tale) (defScope s__law_tale) .none kV dc pm an cd ct), sl⟩) (c : PySem.W.codeIn K cd "_law_tale" = true) (k : PySem.W.keepIn K (.ref f) = true) : FuD K mg "_law_tale" ["bag", "mill", "rings", "terms", "now", "base"] s__law_tale :=
  ⟨⟨_, _, fun_mk (st := s__law_tale) l c k, PySem.W.mg_of X G a, (fun_mk (st := s__law_tale) l c k).binds (ps := ["bag", "mill", "rings", "terms", "now", "base"]) fun _ _ _ _ _ _ us hl => match us, hl with | [_, _, _, _, _, _], _ => rfl⟩⟩
theorem fu_first_stand (X : K.In h) (G : h.Ns mainGlobals mg) {f : Addr} {oc kV dc pm cd ct : Value} {od an : Option Addr} {sl : Array (Option Value)} (a : PySem.W.nsIn K mainGlobals "first_stand" = some (some (.ref f))) (l : K.lookup f = some ⟨oc, od, .func (PySem.W.fnOf "first_stand" "first_stand" (defArgs s_first_stand) (defBody s_first_stand) (defScope s_first_stand) .none kV dc pm an cd ct), sl⟩) (c : PySem.W.codeIn K cd "first_stand" = true) (k : PySem.W.keepIn K (.ref f) = true) : FuD K mg "first_stand" ["state"] s_first_stand :=
  ⟨⟨_, _, fun_mk (st := s_first_stand) l c k, PySem.W.mg_of X G a, (fun_mk (st := s_first_stand) l c k).binds (ps := ["state"]) fun _ _ _ _ _ _ us hl => match us, hl with | [_], _ => rfl⟩⟩
theorem fu_rests (X : K.In h) (G : h.Ns mainGlobals mg) {f : Addr} {oc kV dc pm cd ct : Value} {od an : Option Addr} {sl : Array (Option Value)} (a : PySem.W.nsIn K mainGlobals "rests" = some (some (.ref f))) (l : K.lookup f = some ⟨oc, od, .func (PySem.W.fnOf "rests" "rests" (defArgs s_rests) (defBody s_rests) (defScope s_rests) .none kV dc pm an cd ct), sl⟩) (c : PySem.W.codeIn K cd "rests" = true) (k : PySem.W.keepIn K (.ref f) = true) : FuD K mg "rests" ["mill", "state"] s_rests :=
  ⟨⟨_, _, fun_mk (st := s_rests) l c k, PySem.W.mg_of X G a, (fun_mk (st := s_rests) l c k).binds (ps := ["mill", "state"]) fun _ _ _ _ _ _ us hl => match us, hl with | [_, _], _ => rfl⟩⟩
theorem fu_waiting (X : K.In h) (G : h.Ns mainGlobals mg) {f : Addr} {oc kV dc pm cd ct : Value} {od an : Option Addr} {sl : Array (Option Value)} (a : PySem.W.nsIn K mainGlobals "waiting" = some (some (.ref f))) (l : K.lookup f = some ⟨oc, od, .func (PySem.W.fnOf "waiting" "waiting" (defArgs s_waiting) (defBody s_waiting) (defScope s_waiting) .none kV dc pm an cd ct), sl⟩) (c : PySem.W.codeIn K cd "waiting" = true) (k : PySem.W.keepIn K (.ref f) = true) : FuD K mg "waiting" ["rings", "took", "beat"] s_waiting :=
  ⟨⟨_, _, fun_mk (st := s_waiting) l c k, PySem.W.mg_of X G a, (fun_mk (st := s_waiting) l c k).binds (ps := ["rings", "took", "beat"]) fun _ _ _ _ _ _ us hl => match us, hl with | [_, _, _], _ => rfl⟩⟩
theorem fu_is_pressed (X : K.In h) (G : h.Ns mainGlobals mg) {f : Addr} {oc kV dc pm cd ct : Value} {od an : Option Addr} {sl : Array (Option Value)} (a : PySem.W.nsIn K mainGlobals "is_pressed" = some (some (.ref f))) (l : K.lookup f = some ⟨oc, od, .func (PySem.W.fnOf "is_pressed" "is_pressed" (defArgs s_is_pressed) (defBody s_is_pressed) (defScope s_is_pressed) .none kV dc pm an cd ct), sl⟩) (c : PySem.W.codeIn K cd "is_pressed" = true) (k : PySem.W.keepIn K (.ref f) = true) : FuD K mg "is_pressed" ["rings", "stand", "beat"] s_is_pressed :=
  ⟨⟨_, _, fun_mk (st := s_is_pressed) l c k, PySem.W.mg_of X G a, (fun_mk (st := s_is_pressed) l c k).binds (ps := ["rings", "stand", "beat"]) fun _ _ _ _ _ _ us hl => match us, hl with | [_, _, _], _ => rfl⟩⟩
theorem fu_spots_read (X : K.In h) (G : h.Ns mainGlobals mg) {f : Addr} {oc kV dc pm cd ct : Value} {od an : Option Addr} {sl : Array (Option Value)} (a : PySem.W.nsIn K mainGlobals "spots_read" = some (some (.ref f))) (l : K.lookup f = some ⟨oc, od, .func (PySem.W.fnOf "spots_read" "spots_read" (defArgs s_spots_read) (defBody s_spots_read) (defScope s_spots_read) .none kV dc pm an cd ct), sl⟩) (c : PySem.W.codeIn K cd "spots_read" = true) (k : PySem.W.keepIn K (.ref f) = true) : FuD K mg "spots_read" ["row"] s_spots_read :=
  ⟨⟨_, _, fun_mk (st := s_spots_read) l c k, PySem.W.mg_of X G a, (fun_mk (st := s_spots_read) l c k).binds (ps := ["row"]) fun _ _ _ _ _ _ us hl => match us, hl with | [_], _ => rfl⟩⟩
theorem fu_spot_written (X : K.In h) (G : h.Ns mainGlobals mg) {f : Addr} {oc kV dc pm cd ct : Value} {od an : Option Addr} {sl : Array (Option Value)} (a : PySem.W.nsIn K mainGlobals "spot_written" = some (some (.ref f))) (l : K.lookup f = some ⟨oc, od, .func (PySem.W.fnOf "spot_written" "spot_written" (defArgs s_spot_written) (defBody s_spot_written) (defScope s_spot_written) .none kV dc pm an cd ct), sl⟩) (c : PySem.W.codeIn K cd "spot_written" = true) (k : PySem.W.keepIn K (.ref f) = true) : FuD K mg "spot_written" ["row"] s_spot_written :=
  ⟨⟨_, _, fun_mk (st := s_spot_written) l c k, PySem.W.mg_of X G a, (fun_mk (st := s_spot_written) l c k).binds (ps := ["row"]) fun _ _ _ _ _ _ us hl => match us, hl with | [_], _ => rfl⟩⟩
theorem fu_cell_at (X : K.In h) (G : h.Ns mainGlobals mg) {f : Addr} {oc kV dc pm cd ct : Value} {od an : Option Addr} {sl : Array (Option Value)} (a : PySem.W.nsIn K mainGlobals "cell_at" = some (some (.ref f))) (l : K.lookup f = some ⟨oc, od, .func (PySem.W.fnOf "cell_at" "cell_at" (defArgs s_cell_at) (defBody s_cell_at) (defScope s_cell_at) .none kV dc pm an cd ct), sl⟩) (c : PySem.W.codeIn K cd "cell_at" = true) (k : PySem.W.keepIn K (.ref f) = true) : FuD K mg "cell_at" ["spots", "a", "n"] s_cell_at :=
  ⟨⟨_, _, fun_mk (st := s_cell_at) l c k, PySem.W.mg_of X G a, (fun_mk (st := s_cell_at) l c k).binds (ps := ["spots", "a", "n"]) fun _ _ _ _ _ _ us hl => match us, hl with | [_, _, _], _ => rfl⟩⟩
theorem fu_wrapped (X : K.In h) (G : h.Ns mainGlobals mg) {f : Addr} {oc kV dc pm cd ct : Value} {od an : Option Addr} {sl : Array (Option Value)} (a : PySem.W.nsIn K mainGlobals "wrapped" = some (some (.ref f))) (l : K.lookup f = some ⟨oc, od, .func (PySem.W.fnOf "wrapped" "wrapped" (defArgs s_wrapped) (defBody s_wrapped) (defScope s_wrapped) .none kV dc pm an cd ct), sl⟩) (c : PySem.W.codeIn K cd "wrapped" = true) (k : PySem.W.keepIn K (.ref f) = true) : FuD K mg "wrapped" ["number"] s_wrapped :=
  ⟨⟨_, _, fun_mk (st := s_wrapped) l c k, PySem.W.mg_of X G a, (fun_mk (st := s_wrapped) l c k).binds (ps := ["number"]) fun _ _ _ _ _ _ us hl => match us, hl with | [_], _ => rfl⟩⟩
theorem fu_worth_by (X : K.In h) (G : h.Ns mainGlobals mg) {f : Addr} {oc kV dc pm cd ct : Value} {od an : Option Addr} {sl : Array (Option Value)} (a : PySem.W.nsIn K mainGlobals "worth_by" = some (some (.ref f))) (l : K.lookup f = some ⟨oc, od, .func (PySem.W.fnOf "worth_by" "worth_by" (defArgs s_worth_by) (defBody s_worth_by) (defScope s_worth_by) .none kV dc pm an cd ct), sl⟩) (c : PySem.W.codeIn K cd "worth_by" = true) (k : PySem.W.keepIn K (.ref f) = true) : FuD K mg "worth_by" ["row", "spots", "cells"] s_worth_by :=
  ⟨⟨_, _, fun_mk (st := s_worth_by) l c k, PySem.W.mg_of X G a, (fun_mk (st := s_worth_by) l c k).binds (ps := ["row", "spots", "cells"]) fun _ _ _ _ _ _ us hl => match us, hl with | [_, _, _], _ => rfl⟩⟩
theorem fu_wrote_by (X : K.In h) (G : h.Ns mainGlobals mg) {f : Addr} {oc kV dc pm cd ct : Value} {od an : Option Addr} {sl : Array (Option Value)} (a : PySem.W.nsIn K mainGlobals "wrote_by" = some (some (.ref f))) (l : K.lookup f = some ⟨oc, od, .func (PySem.W.fnOf "wrote_by" "wrote_by" (defArgs s_wrote_by) (defBody s_wrote_by) (defScope s_wrote_by) .none kV dc pm an cd ct), sl⟩) (c : PySem.W.codeIn K cd "wrote_by" = true) (k : PySem.W.keepIn K (.ref f) = true) : FuD K mg "wrote_by" ["row", "spots", "cells"] s_wrote_by :=
  ⟨⟨_, _, fun_mk (st := s_wrote_by) l c k, PySem.W.mg_of X G a, (fun_mk (st := s_wrote_by) l c k).binds (ps := ["row", "spots", "cells"]) fun _ _ _ _ _ _ us hl => match us, hl with | [_, _, _], _ => rfl⟩⟩
theorem fu_place_behind (X : K.In h) (G : h.Ns mainGlobals mg) {f : Addr} {oc kV dc pm cd ct : Value} {od an : Option Addr} {sl : Array (Option Value)} (a : PySem.W.nsIn K mainGlobals "place_behind" = some (some (.ref f))) (l : K.lookup f = some ⟨oc, od, .func (PySem.W.fnOf "place_behind" "place_behind" (defArgs s_place_behind) (defBody s_place_behind) (defScope s_place_behind) .none kV dc pm an cd ct), sl⟩) (c : PySem.W.codeIn K cd "place_behind" = true) (k : PySem.W.keepIn K (.ref f) = true) : FuD K mg "place_behind" ["row", "place", "spots", "kept"] s_place_behind :=
  ⟨⟨_, _, fun_mk (st := s_place_behind) l c k, PySem.W.mg_of X G a, (fun_mk (st := s_place_behind) l c k).binds (ps := ["row", "place", "spots", "kept"]) fun _ _ _ _ _ _ us hl => match us, hl with | [_, _, _, _], _ => rfl⟩⟩
theorem fu_put_at (X : K.In h) (G : h.Ns mainGlobals mg) {f : Addr} {oc kV dc pm cd ct : Value} {od an : Option Addr} {sl : Array (Option Value)} (a : PySem.W.nsIn K mainGlobals "put_at" = some (some (.ref f))) (l : K.lookup f = some ⟨oc, od, .func (PySem.W.fnOf "put_at" "put_at" (defArgs s_put_at) (defBody s_put_at) (defScope s_put_at) .none kV dc pm an cd ct), sl⟩) (c : PySem.W.codeIn K cd "put_at" = true) (k : PySem.W.keepIn K (.ref f) = true) : FuD K mg "put_at" ["worths", "at", "worth"] s_put_at :=
  ⟨⟨_, _, fun_mk (st := s_put_at) l c k, PySem.W.mg_of X G a, (fun_mk (st := s_put_at) l c k).binds (ps := ["worths", "at", "worth"]) fun _ _ _ _ _ _ us hl => match us, hl with | [_, _, _], _ => rfl⟩⟩
theorem fu_step (X : K.In h) (G : h.Ns mainGlobals mg) {f : Addr} {oc kV dc pm cd ct : Value} {od an : Option Addr} {sl : Array (Option Value)} (a : PySem.W.nsIn K mainGlobals "step" = some (some (.ref f))) (l : K.lookup f = some ⟨oc, od, .func (PySem.W.fnOf "step" "step" (defArgs s_step) (defBody s_step) (defScope s_step) .none kV dc pm an cd ct), sl⟩) (c : PySem.W.codeIn K cd "step" = true) (k : PySem.W.keepIn K (.ref f) = true) : FuD K mg "step" ["mill", "state"] s_step :=
  ⟨⟨_, _, fun_mk (st := s_step) l c k, PySem.W.mg_of X G a, (fun_mk (st := s_step) l c k).binds (ps := ["mill", "state"]) fun _ _ _ _ _ _ us hl => match us, hl with | [_, _], _ => rfl⟩⟩
theorem fu_is_slow (X : K.In h) (G : h.Ns mainGlobals mg) {f : Addr} {oc kV dc pm cd ct : Value} {od an : Option Addr} {sl : Array (Option Value)} (a : PySem.W.nsIn K mainGlobals "is_slow" = some (some (.ref f))) (l : K.lookup f = some ⟨oc, od, .func (PySem.W.fnOf "is_slow" "is_slow" (defArgs s_is_slow) (defBody s_is_slow) (defScope s_is_slow) .none kV dc pm an cd ct), sl⟩) (c : PySem.W.codeIn K cd "is_slow" = true) (k : PySem.W.keepIn K (.ref f) = true) : FuD K mg "is_slow" ["row"] s_is_slow :=
  ⟨⟨_, _, fun_mk (st := s_is_slow) l c k, PySem.W.mg_of X G a, (fun_mk (st := s_is_slow) l c k).binds (ps := ["row"]) fun _ _ _ _ _ _ us hl => match us, hl with | [_], _ => rfl⟩⟩
theorem fu_wrote_cause (X : K.In h) (G : h.Ns mainGlobals mg) {f : Addr} {oc kV dc pm cd ct : Value} {od an : Option Addr} {sl : Array (Option Value)} (a : PySem.W.nsIn K mainGlobals "wrote_cause" = some (some (.ref f))) (l : K.lookup f = some ⟨oc, od, .func (PySem.W.fnOf "wrote_cause" "wrote_cause" (defArgs s_wrote_cause) (defBody s_wrote_cause) (defScope s_wrote_cause) .none kV dc pm an cd ct), sl⟩) (c : PySem.W.codeIn K cd "wrote_cause" = true) (k : PySem.W.keepIn K (.ref f) = true) : FuD K mg "wrote_cause" ["row", "due", "terms", "stand", "wrote"] s_wrote_cause :=
  ⟨⟨_, _, fun_mk (st := s_wrote_cause) l c k, PySem.W.mg_of X G a, (fun_mk (st := s_wrote_cause) l c k).binds (ps := ["row", "due", "terms", "stand", "wrote"]) fun _ _ _ _ _ _ us hl => match us, hl with | [_, _, _, _, _], _ => rfl⟩⟩
theorem fu_end_cause (X : K.In h) (G : h.Ns mainGlobals mg) {f : Addr} {oc kV dc pm cd ct : Value} {od an : Option Addr} {sl : Array (Option Value)} (a : PySem.W.nsIn K mainGlobals "end_cause" = some (some (.ref f))) (l : K.lookup f = some ⟨oc, od, .func (PySem.W.fnOf "end_cause" "end_cause" (defArgs s_end_cause) (defBody s_end_cause) (defScope s_end_cause) .none kV dc pm an cd ct), sl⟩) (c : PySem.W.codeIn K cd "end_cause" = true) (k : PySem.W.keepIn K (.ref f) = true) : FuD K mg "end_cause" ["mill", "rings", "terms", "stand", "event"] s_end_cause :=
  ⟨⟨_, _, fun_mk (st := s_end_cause) l c k, PySem.W.mg_of X G a, (fun_mk (st := s_end_cause) l c k).binds (ps := ["mill", "rings", "terms", "stand", "event"]) fun _ _ _ _ _ _ us hl => match us, hl with | [_, _, _, _, _], _ => rfl⟩⟩
theorem fu_late_cause (X : K.In h) (G : h.Ns mainGlobals mg) {f : Addr} {oc kV dc pm cd ct : Value} {od an : Option Addr} {sl : Array (Option Value)} (a : PySem.W.nsIn K mainGlobals "late_cause" = some (some (.ref f))) (l : K.lookup f = some ⟨oc, od, .func (PySem.W.fnOf "late_cause" "late_cause" (defArgs s_late_cause) (defBody s_late_cause) (defScope s_late_cause) .none kV dc pm an cd ct), sl⟩) (c : PySem.W.codeIn K cd "late_cause" = true) (k : PySem.W.keepIn K (.ref f) = true) : FuD K mg "late_cause" ["stand", "event"] s_late_cause :=
  ⟨⟨_, _, fun_mk (st := s_late_cause) l c k, PySem.W.mg_of X G a, (fun_mk (st := s_late_cause) l c k).binds (ps := ["stand", "event"]) fun _ _ _ _ _ _ us hl => match us, hl with | [_, _], _ => rfl⟩⟩
theorem fu_down_cause (X : K.In h) (G : h.Ns mainGlobals mg) {f : Addr} {oc kV dc pm cd ct : Value} {od an : Option Addr} {sl : Array (Option Value)} (a : PySem.W.nsIn K mainGlobals "down_cause" = some (some (.ref f))) (l : K.lookup f = some ⟨oc, od, .func (PySem.W.fnOf "down_cause" "down_cause" (defArgs s_down_cause) (defBody s_down_cause) (defScope s_down_cause) .none kV dc pm an cd ct), sl⟩) (c : PySem.W.codeIn K cd "down_cause" = true) (k : PySem.W.keepIn K (.ref f) = true) : FuD K mg "down_cause" ["stand", "event"] s_down_cause :=
  ⟨⟨_, _, fun_mk (st := s_down_cause) l c k, PySem.W.mg_of X G a, (fun_mk (st := s_down_cause) l c k).binds (ps := ["stand", "event"]) fun _ _ _ _ _ _ us hl => match us, hl with | [_, _], _ => rfl⟩⟩
theorem fu_bell_cause (X : K.In h) (G : h.Ns mainGlobals mg) {f : Addr} {oc kV dc pm cd ct : Value} {od an : Option Addr} {sl : Array (Option Value)} (a : PySem.W.nsIn K mainGlobals "bell_cause" = some (some (.ref f))) (l : K.lookup f = some ⟨oc, od, .func (PySem.W.fnOf "bell_cause" "bell_cause" (defArgs s_bell_cause) (defBody s_bell_cause) (defScope s_bell_cause) .none kV dc pm an cd ct), sl⟩) (c : PySem.W.codeIn K cd "bell_cause" = true) (k : PySem.W.keepIn K (.ref f) = true) : FuD K mg "bell_cause" ["rings", "stand", "event"] s_bell_cause :=
  ⟨⟨_, _, fun_mk (st := s_bell_cause) l c k, PySem.W.mg_of X G a, (fun_mk (st := s_bell_cause) l c k).binds (ps := ["rings", "stand", "event"]) fun _ _ _ _ _ _ us hl => match us, hl with | [_, _, _], _ => rfl⟩⟩
theorem fu_cause_of (X : K.In h) (G : h.Ns mainGlobals mg) {f : Addr} {oc kV dc pm cd ct : Value} {od an : Option Addr} {sl : Array (Option Value)} (a : PySem.W.nsIn K mainGlobals "cause_of" = some (some (.ref f))) (l : K.lookup f = some ⟨oc, od, .func (PySem.W.fnOf "cause_of" "cause_of" (defArgs s_cause_of) (defBody s_cause_of) (defScope s_cause_of) .none kV dc pm an cd ct), sl⟩) (c : PySem.W.codeIn K cd "cause_of" = true) (k : PySem.W.keepIn K (.ref f) = true) : FuD K mg "cause_of" ["mill", "rings", "terms", "stand", "event"] s_cause_of :=
  ⟨⟨_, _, fun_mk (st := s_cause_of) l c k, PySem.W.mg_of X G a, (fun_mk (st := s_cause_of) l c k).binds (ps := ["mill", "rings", "terms", "stand", "event"]) fun _ _ _ _ _ _ us hl => match us, hl with | [_, _, _, _, _], _ => rfl⟩⟩
theorem fu_ask_bell (X : K.In h) (G : h.Ns mainGlobals mg) {f : Addr} {oc kV dc pm cd ct : Value} {od an : Option Addr} {sl : Array (Option Value)} (a : PySem.W.nsIn K mainGlobals "ask_bell" = some (some (.ref f))) (l : K.lookup f = some ⟨oc, od, .func (PySem.W.fnOf "ask_bell" "ask_bell" (defArgs s_ask_bell) (defBody s_ask_bell) (defScope s_ask_bell) .none kV dc pm an cd ct), sl⟩) (c : PySem.W.codeIn K cd "ask_bell" = true) (k : PySem.W.keepIn K (.ref f) = true) : FuD K mg "ask_bell" ["mill", "k"] s_ask_bell :=
  ⟨⟨_, _, fun_mk (st := s_ask_bell) l c k, PySem.W.mg_of X G a, (fun_mk (st := s_ask_bell) l c k).binds (ps := ["mill", "k"]) fun _ _ _ _ _ _ us hl => match us, hl with | [_, _], _ => rfl⟩⟩
theorem fu_bell (X : K.In h) (G : h.Ns mainGlobals mg) {f : Addr} {oc kV dc pm cd ct : Value} {od an : Option Addr} {sl : Array (Option Value)} (a : PySem.W.nsIn K mainGlobals "bell" = some (some (.ref f))) (l : K.lookup f = some ⟨oc, od, .func (PySem.W.fnOf "bell" "bell" (defArgs s_bell) (defBody s_bell) (defScope s_bell) .none kV dc pm an cd ct), sl⟩) (c : PySem.W.codeIn K cd "bell" = true) (k : PySem.W.keepIn K (.ref f) = true) : FuD K mg "bell" ["mill", "state", "k"] s_bell :=
  ⟨⟨_, _, fun_mk (st := s_bell) l c k, PySem.W.mg_of X G a, (fun_mk (st := s_bell) l c k).binds (ps := ["mill", "state", "k"]) fun _ _ _ _ _ _ us hl => match us, hl with | [_, _, _], _ => rfl⟩⟩
theorem fu_taken_up (X : K.In h) (G : h.Ns mainGlobals mg) {f : Addr} {oc kV dc pm cd ct : Value} {od an : Option Addr} {sl : Array (Option Value)} (a : PySem.W.nsIn K mainGlobals "taken_up" = some (some (.ref f))) (l : K.lookup f = some ⟨oc, od, .func (PySem.W.fnOf "taken_up" "taken_up" (defArgs s_taken_up) (defBody s_taken_up) (defScope s_taken_up) .none kV dc pm an cd ct), sl⟩) (c : PySem.W.codeIn K cd "taken_up" = true) (k : PySem.W.keepIn K (.ref f) = true) : FuD K mg "taken_up" ["mill", "rings", "stand", "event"] s_taken_up :=
  ⟨⟨_, _, fun_mk (st := s_taken_up) l c k, PySem.W.mg_of X G a, (fun_mk (st := s_taken_up) l c k).binds (ps := ["mill", "rings", "stand", "event"]) fun _ _ _ _ _ _ us hl => match us, hl with | [_, _, _, _], _ => rfl⟩⟩
theorem fu_parting (X : K.In h) (G : h.Ns mainGlobals mg) {f : Addr} {oc kV dc pm cd ct : Value} {od an : Option Addr} {sl : Array (Option Value)} (a : PySem.W.nsIn K mainGlobals "parting" = some (some (.ref f))) (l : K.lookup f = some ⟨oc, od, .func (PySem.W.fnOf "parting" "parting" (defArgs s_parting) (defBody s_parting) (defScope s_parting) .none kV dc pm an cd ct), sl⟩) (c : PySem.W.codeIn K cd "parting" = true) (k : PySem.W.keepIn K (.ref f) = true) : FuD K mg "parting" ["mill", "state", "rings", "terms", "diary"] s_parting :=
  ⟨⟨_, _, fun_mk (st := s_parting) l c k, PySem.W.mg_of X G a, (fun_mk (st := s_parting) l c k).binds (ps := ["mill", "state", "rings", "terms", "diary"]) fun _ _ _ _ _ _ us hl => match us, hl with | [_, _, _, _, _], _ => rfl⟩⟩
theorem fu__law_right (X : K.In h) (G : h.Ns mainGlobals mg) {f : Addr} {oc kV dc pm cd ct : Value} {od an : Option Addr} {sl : Array (Option Value)} (a : PySem.W.nsIn K mainGlobals "_law_right" = some (some (.ref f))) (l : K.lookup f = some ⟨oc, od, .func (PySem.W.fnOf "_law_right" "_law_right" (defArgs s__law_right) (defBody s__law_right) (defScope s__law_right) .none kV dc pm an cd ct), sl⟩) (c : PySem.W.codeIn K cd "_law_right" = true) (k : PySem.W.keepIn K (.ref f) = true) : FuD K mg "_law_right" ["found", "due"] s__law_right :=
  ⟨⟨_, _, fun_mk (st := s__law_right) l c k, PySem.W.mg_of X G a, (fun_mk (st := s__law_right) l c k).binds (ps := ["found", "due"]) fun _ _ _ _ _ _ us hl => match us, hl with | [_, _], _ => rfl⟩⟩
theorem fu_Holder_tell {C : Addr} {f : Addr} {oc kV dc pm cd ct : Value} {od an : Option Addr} {sl : Array (Option Value)} (a : PySem.W.findIn K (.ref C) "tell" = some (some (.ref f))) (i : PySem.W.isFn K (.ref f) = true) (l : K.lookup f = some ⟨oc, od, .func (PySem.W.fnOf "tell" "Holder.tell" (defArgs s_Holder_tell) (defBody s_Holder_tell) (defScope s_Holder_tell) .none kV dc pm an cd ct), sl⟩) (c : PySem.W.codeIn K cd "Holder.tell" = true) (k : PySem.W.keepIn K (.ref f) = true) : FuM K C "tell" "Holder.tell" ["self", "event"] s_Holder_tell :=
  ⟨⟨_, _, fun_mk (st := s_Holder_tell) l c k, ⟨a, i, k⟩, (fun_mk (st := s_Holder_tell) l c k).binds (ps := ["self", "event"]) fun _ _ _ _ _ _ us hl => match us, hl with | [_, _], _ => rfl⟩⟩
theorem fu_Holder_parted {C : Addr} {f : Addr} {oc kV dc pm cd ct : Value} {od an : Option Addr} {sl : Array (Option Value)} (a : PySem.W.findIn K (.ref C) "parted" = some (some (.ref f))) (i : PySem.W.isFn K (.ref f) = true) (l : K.lookup f = some ⟨oc, od, .func (PySem.W.fnOf "parted" "Holder.parted" (defArgs s_Holder_parted) (defBody s_Holder_parted) (defScope s_Holder_parted) .none kV dc pm an cd ct), sl⟩) (c : PySem.W.codeIn K cd "Holder.parted" = true) (k : PySem.W.keepIn K (.ref f) = true) : FuM K C "parted" "Holder.parted" ["self"] s_Holder_parted :=
  ⟨⟨_, _, fun_mk (st := s_Holder_parted) l c k, ⟨a, i, k⟩, (fun_mk (st := s_Holder_parted) l c k).binds (ps := ["self"]) fun _ _ _ _ _ _ us hl => match us, hl with | [_], _ => rfl⟩⟩
theorem fu_Holder_init {P : Program} {w : World} {base : Heap} {C : Addr} (B : Bl mg) (T : HTx K C) (D : Df P w K mg base "first_stand" 1 ["state"] (spD S_first_stand)) {f : Addr} {oc kV dc pm cd ct : Value} {od an : Option Addr} {sl : Array (Option Value)} (mk : PySem.W.makesIn K C = true) (a : PySem.W.findIn K (.ref C) "__init__" = some (some (.ref f))) (i : PySem.W.isFn K (.ref f) = true) (kc : PySem.W.keepIn K (.ref C) = true) (l : K.lookup f = some ⟨oc, od, .func (PySem.W.fnOf "__init__" "Holder.__init__" (defArgs s_Holder___init__) (defBody s_Holder___init__) (defScope s_Holder___init__) .none kV dc pm an cd ct), sl⟩) (c : PySem.W.codeIn K cd "Holder.__init__" = true) (k : PySem.W.keepIn K (.ref f) = true) : Mki P w K mg base C 2 ["self", "mill", "state", "rings", "terms"] (spInit C) :=
  df_Holder_init B T D ⟨mk, a, i, kc⟩ (fun_mk (st := s_Holder___init__) l c k) ((fun_mk (st := s_Holder___init__) l c k).binds (ps := ["self", "mill", "state", "rings", "terms"]) fun _ _ _ _ _ _ us hl => match us, hl with | [_, _, _, _, _], _ => rfl)
end
theorem law_all {P : Program} {w : World} {K : PySem.W.Frag} {mg : Str → Option Value} {base : Heap} {C : Addr} (B : Bl mg) (T0 : Cs mg) (T : HTx K C) (hC : mg "Holder" = some (.ref C)) (F__law_bag : FuD K mg "_law_bag" ["script"] s__law_bag) (F__law_draw : FuD K mg "_law_draw" ["bag", "many"] s__law_draw) (F__law_worth : FuD K mg "_law_worth" ["bag"] s__law_worth) (F__law_row : FuD K mg "_law_row" ["bag", "many", "spots"] s__law_row) (F__law_mill : FuD K mg "_law_mill" ["bag"] s__law_mill) (F__law_state : FuD K mg "_law_state" ["bag", "mill"] s__law_state) (F__law_far : FuD K mg "_law_far" ["bag"] s__law_far) (F__law_rings : FuD K mg "_law_rings" ["bag", "mill", "base"] s__law_rings) (F__law_terms : FuD K mg "_law_terms" ["bag"] s__law_terms) (F__law_begin : FuD K mg "_law_begin" ["state"] s__law_begin) (F__law_waits : FuD K mg "_law_waits" ["rings", "now", "beat"] s__law_waits) (F__law_due : FuD K mg "_law_due" ["row", "now"] s__law_due) (F__law_end_cause : FuD K mg "_law_end_cause" ["mill", "rings", "terms", "now", "event"] s__law_end_cause) (F__law_cause : FuD K mg "_law_cause" ["mill", "rings", "terms", "now", "event"] s__law_cause) (F__law_sure : FuD K mg "_law_sure" ["mill", "rings", "terms", "now"] s__law_sure) (F__law_some : FuD K mg "_law_some" ["bag", "mill", "rings", "terms", "now", "base"] s__law_some) (F__law_wild : FuD K mg "_law_wild" ["bag", "now"] s__law_wild) (F__law_other_number : FuD K mg "_law_other_number" ["bag", "number"] s__law_other_number) (F__law_other_wrote : FuD K mg "_law_other_wrote" ["bag", "wrote", "due"] s__law_other_wrote) (F__law_spoilt : FuD K mg "_law_spoilt" ["bag", "mill", "terms", "now", "event"] s__law_spoilt) (F__law_goes : FuD K mg "_law_goes" ["row", "now"] s__law_goes) (F__law_take_up : FuD K mg "_law_take_up" ["mill", "rings", "now", "event"] s__law_take_up) (F__law_tale : FuD K mg "_law_tale" ["bag", "mill", "rings", "terms", "now", "base"] s__law_tale) (F_first_stand : FuD K mg "first_stand" ["state"] s_first_stand) (F_rests : FuD K mg "rests" ["mill", "state"] s_rests) (F_waiting : FuD K mg "waiting" ["rings", "took", "beat"] s_waiting) (F_is_pressed : FuD K mg "is_pressed" ["rings", "stand", "beat"] s_is_pressed) (F_spots_read : FuD K mg "spots_read" ["row"] s_spots_read) (F_spot_written : FuD K mg "spot_written" ["row"] s_spot_written) (F_cell_at : FuD K mg "cell_at" ["spots", "a", "n"] s_cell_at) (F_wrapped : FuD K mg "wrapped" ["number"] s_wrapped) (F_worth_by : FuD K mg "worth_by" ["row", "spots", "cells"] s_worth_by) (F_wrote_by : FuD K mg "wrote_by" ["row", "spots", "cells"] s_wrote_by) (F_place_behind : FuD K mg "place_behind" ["row", "place", "spots", "kept"] s_place_behind) (F_put_at : FuD K mg "put_at" ["worths", "at", "worth"] s_put_at) (F_step : FuD K mg "step" ["mill", "state"] s_step) (F_is_slow : FuD K mg "is_slow" ["row"] s_is_slow) (F_wrote_cause : FuD K mg "wrote_cause" ["row", "due", "terms", "stand", "wrote"] s_wrote_cause) (F_end_cause : FuD K mg "end_cause" ["mill", "rings", "terms", "stand", "event"] s_end_cause) (F_late_cause : FuD K mg "late_cause" ["stand", "event"] s_late_cause) (F_down_cause : FuD K mg "down_cause" ["stand", "event"] s_down_cause) (F_bell_cause : FuD K mg "bell_cause" ["rings", "stand", "event"] s_bell_cause) (F_cause_of : FuD K mg "cause_of" ["mill", "rings", "terms", "stand", "event"] s_cause_of) (F_ask_bell : FuD K mg "ask_bell" ["mill", "k"] s_ask_bell) (F_bell : FuD K mg "bell" ["mill", "state", "k"] s_bell) (F_taken_up : FuD K mg "taken_up" ["mill", "rings", "stand", "event"] s_taken_up) (F_parting : FuD K mg "parting" ["mill", "state", "rings", "terms", "diary"] s_parting) (F__law_right : FuD K mg "_law_right" ["found", "due"] s__law_right) {fl : Addr} {fdl : FuncData} (F_law : Fun K "law" "law" s_law fl fdl) (F_Holder_tell : FuM K C "tell" "Holder.tell" ["self", "event"] s_Holder_tell) (F_Holder_parted : FuM K C "parted" "Holder.parted" ["self"] s_Holder_parted)  (MI : Df P w K mg base "first_stand" 1 ["state"] (spD S_first_stand) → Mki P w K mg base C 2 ["self", "mill", "state", "rings", "terms"] (spInit C)) : FnOk P w K mg base CX0 10 fl fdl ["script"] (spLaw K) := by
  have D__law_bag := df__law_bag (P := P) (w := w) (base := base) B  F__law_bag
  have D__law_draw := df__law_draw (P := P) (w := w) (base := base) B  F__law_draw
  have D__law_worth := df__law_worth (P := P) (w := w) (base := base) B D__law_draw F__law_worth
  have D__law_row := df__law_row (P := P) (w := w) (base := base) B D__law_draw D__law_worth F__law_row
  have D__law_mill := df__law_mill (P := P) (w := w) (base := base) B D__law_draw D__law_row F__law_mill
  have D__law_state := df__law_state (P := P) (w := w) (base := base) B D__law_draw D__law_worth F__law_state
  have D__law_far := df__law_far (P := P) (w := w) (base := base) B D__law_draw F__law_far
  have D__law_rings := df__law_rings (P := P) (w := w) (base := base) B D__law_draw D__law_far F__law_rings
  have D__law_terms := df__law_terms (P := P) (w := w) (base := base) B D__law_draw D__law_far F__law_terms
  have D__law_begin := df__law_begin (P := P) (w := w) (base := base) B  F__law_begin
  have D__law_waits := df__law_waits (P := P) (w := w) (base := base) B  F__law_waits
  have D__law_due := df__law_due (P := P) (w := w) (base := base) B  F__law_due
  have D__law_end_cause := df__law_end_cause (P := P) (w := w) (base := base) B D__law_waits D__law_due F__law_end_cause
  have D__law_cause := df__law_cause (P := P) (w := w) (base := base) B D__law_end_cause D__law_waits F__law_cause
  have D__law_sure := df__law_sure (P := P) (w := w) (base := base) B D__law_waits D__law_due F__law_sure
  have D__law_some := df__law_some (P := P) (w := w) (base := base) B D__law_draw D__law_waits D__law_due D__law_cause D__law_sure F__law_some
  have D__law_wild := df__law_wild (P := P) (w := w) (base := base) B D__law_draw D__law_far D__law_worth F__law_wild
  have D__law_other_number := df__law_other_number (P := P) (w := w) (base := base) B D__law_draw D__law_far F__law_other_number
  have D__law_other_wrote := df__law_other_wrote (P := P) (w := w) (base := base) B D__law_draw D__law_worth D__law_other_number F__law_other_wrote
  have D__law_spoilt := df__law_spoilt (P := P) (w := w) (base := base) B D__law_draw D__law_wild D__law_far D__law_other_number D__law_other_wrote D__law_due F__law_spoilt
  have D__law_goes := df__law_goes (P := P) (w := w) (base := base) B D__law_due F__law_goes
  have D__law_take_up := df__law_take_up (P := P) (w := w) (base := base) B D__law_waits D__law_goes F__law_take_up
  have D__law_tale := df__law_tale (P := P) (w := w) (base := base) B D__law_draw D__law_some D__law_spoilt D__law_cause D__law_wild D__law_take_up F__law_tale
  have D_first_stand := df_first_stand (P := P) (w := w) (base := base) B  F_first_stand
  have D_Holder_init := MI D_first_stand
  have D_rests := df_rests (P := P) (w := w) (base := base) B  F_rests
  have D_waiting := df_waiting (P := P) (w := w) (base := base) B  F_waiting
  have D_is_pressed := df_is_pressed (P := P) (w := w) (base := base) B D_waiting F_is_pressed
  have D_spots_read := df_spots_read (P := P) (w := w) (base := base) B  F_spots_read
  have D_spot_written := df_spot_written (P := P) (w := w) (base := base) B  F_spot_written
  have D_cell_at := df_cell_at (P := P) (w := w) (base := base) B T0  F_cell_at
  have D_wrapped := df_wrapped (P := P) (w := w) (base := base) B T0  F_wrapped
  have D_worth_by := df_worth_by (P := P) (w := w) (base := base) B D_cell_at D_wrapped F_worth_by
  have D_wrote_by := df_wrote_by (P := P) (w := w) (base := base) B D_cell_at D_worth_by F_wrote_by
  have D_place_behind := df_place_behind (P := P) (w := w) (base := base) B  F_place_behind
  have D_put_at := df_put_at (P := P) (w := w) (base := base) B  F_put_at
  have D_step := df_step (P := P) (w := w) (base := base) B D_rests D_wrote_by D_place_behind D_put_at F_step
  have D_is_slow := df_is_slow (P := P) (w := w) (base := base) B  F_is_slow
  have D_wrote_cause := df_wrote_cause (P := P) (w := w) (base := base) B D_is_slow F_wrote_cause
  have D_end_cause := df_end_cause (P := P) (w := w) (base := base) B D_rests D_is_pressed D_spots_read D_spot_written D_step D_wrote_cause F_end_cause
  have D_late_cause := df_late_cause (P := P) (w := w) (base := base) B  F_late_cause
  have D_down_cause := df_down_cause (P := P) (w := w) (base := base) B  F_down_cause
  have D_bell_cause := df_bell_cause (P := P) (w := w) (base := base) B D_waiting F_bell_cause
  have D_cause_of := df_cause_of (P := P) (w := w) (base := base) B D_end_cause D_late_cause D_down_cause D_bell_cause F_cause_of
  have D_ask_bell := df_ask_bell (P := P) (w := w) (base := base) B  F_ask_bell
  have D_bell := df_bell (P := P) (w := w) (base := base) B D_ask_bell F_bell
  have D_taken_up := df_taken_up (P := P) (w := w) (base := base) B D_bell D_is_pressed D_step F_taken_up
  have D_Holder_tell := df_Holder_tell (P := P) (w := w) (base := base) B T D_cause_of D_taken_up F_Holder_tell
  have D_Holder_parted := df_Holder_parted (P := P) (w := w) (base := base) B T  F_Holder_parted
  have D_parting := df_parting (P := P) (w := w) (base := base) B T hC D_Holder_init D_Holder_tell D_Holder_parted  F_parting
  have D__law_right := df__law_right (P := P) (w := w) (base := base) B  F__law_right
  have D_law := df_law (P := P) (w := w) (base := base) B D__law_bag D__law_mill D__law_state D__law_draw D__law_far D__law_rings D__law_terms D__law_begin D__law_tale D_parting D__law_right F_law
  exact D_law
theorem bl_mk {K : PySem.W.Frag} {h : Heap} {mg : Str → Option Value} (X : K.In h) (G : h.Ns mainGlobals mg) (z_len : PySem.W.nsIn K mainGlobals "len" = some none) (z_max : PySem.W.nsIn K mainGlobals "max" = some none) (z_sorted : PySem.W.nsIn K mainGlobals "sorted" = some none) (z_isinstance : PySem.W.nsIn K mainGlobals "isinstance" = some none) (z_set : PySem.W.nsIn K mainGlobals "set" = some none) (z_int : PySem.W.nsIn K mainGlobals "int" = some none) (z_tuple : PySem.W.nsIn K mainGlobals "tuple" = some none) (z_list : PySem.W.nsIn K mainGlobals "list" = some none) (z_str : PySem.W.nsIn K mainGlobals "str" = some none) (z_bool : PySem.W.nsIn K mainGlobals "bool" = some none) (z_range : PySem.W.nsIn K mainGlobals "range" = some none) : Bl mg :=
  ⟨PySem.W.mg_none_of X G z_len, PySem.W.mg_none_of X G z_max, PySem.W.mg_none_of X G z_sorted, PySem.W.mg_none_of X G z_isinstance, PySem.W.mg_none_of X G z_set, PySem.W.mg_none_of X G z_int, PySem.W.mg_none_of X G z_tuple, PySem.W.mg_none_of X G z_list, PySem.W.mg_none_of X G z_str, PySem.W.mg_none_of X G z_bool, PySem.W.mg_none_of X G z_range⟩
theorem cs_mk {K : PySem.W.Frag} {h : Heap} {mg : Str → Option Value} (X : K.In h) (G : h.Ns mainGlobals mg) {t1 t2 : Nat} (z1 : PySem.W.nsIn K mainGlobals "CELLS" = some (some (.int 16 t1))) (z2 : PySem.W.nsIn K mainGlobals "WORTHS" = some (some (.int 4294967296 t2))) : Cs mg :=
  ⟨⟨_, PySem.W.mg_of X G z1⟩, ⟨_, PySem.W.mg_of X G z2⟩⟩
theorem walk {l : PySem.W.OpenLaw} {q : Program} {loose : List Str} {XP : (Str → Option Value) → Heap → Prop} {YP : World → Heap → Prop} {d : DefRec} {K : Params → PySem.W.Frag} (hn : l.most = some 63) (hdf : d.params.defaults = [])
    (hY : ∀ (w : World) (h : Heap), YP w h → (K w.params).In h)
    (F : ∀ (w : World) (mg : Str → Option Value) (fa : Addr) (h : Heap), (K w.params).In h → h.Ns mainGlobals mg → mg d.name = some (.ref fa) →
      ∃ fd : FuncData, (∀ (s : Shared) (u : Value), BindsTo s fd ⟨[u], []⟩ [("script", u)]) ∧ ∀ base : Heap, (K w.params).In base → base.Ns mainGlobals mg → FnOk l.prog w (K w.params) mg base CX0 10 fa fd ["script"] (spLaw (K w.params))) :
    PySem.W.WalkO q loose XP YP l.row.toRowW d [] (fun f vs => PySem.call f vs) :=
  L2.walk_of (n := 63) (k := 10) (x := "script") (CX := fun _ => CX0) (sp := fun w => spLaw (K w.params)) hn (by decide) hdf ⟨rfl, by decide, by decide⟩ hY F (fun _ _ a ns hl _ hS => ⟨a, ns, rfl, hS, hl, fun _ => rfl⟩) fun _ _ _ _ _ z => z
theorem all_mk {l : PySem.W.OpenLaw} {w : World} {K : PySem.W.Frag} {h : Heap} {mg : Str → Option Value} {fa C : Addr} (X : K.In h) (G : h.Ns mainGlobals mg) (hfa : mg "law" = some (.ref fa))
    (aC : PySem.W.nsIn K mainGlobals "Holder" = some (some (.ref C))) {f__law_bag : Addr} {oc__law_bag kV__law_bag dc__law_bag pm__law_bag cd__law_bag ct__law_bag : Value} {od__law_bag an__law_bag : Option Addr} {sl__law_bag : Array (Option Value)}
    (a__law_bag : PySem.W.nsIn K mainGlobals "_law_bag" = some (some (.ref f__law_bag))) (l__law_bag : K.lookup f__law_bag = some ⟨oc__law_bag, od__law_bag, .func (PySem.W.fnOf "_law_bag" "_law_bag" (defArgs s__law_bag) (defBody s__law_bag) (defScope s__law_bag) .none kV__law_bag dc__law_bag pm__law_bag an__law_bag cd__law_bag ct__law_bag), sl__law_bag⟩) (c__law_bag : PySem.W.codeIn K cd__law_bag "_law_bag" = true) (k__law_bag : PySem.W.keepIn K (.ref f__law_bag) = true) {f__law_draw : Addr} {oc__law_draw kV__law_draw dc__law_draw pm__law_draw cd__law_draw ct__law_draw : Value} {od__law_draw an__law_draw : Option Addr} {sl__law_draw : Array (Option Value)}
    (a__law_draw : PySem.W.nsIn K mainGlobals "_law_draw" = some (some (.ref f__law_draw))) (l__law_draw : K.lookup f__law_draw = some ⟨oc__law_draw, od__law_draw, .func (PySem.W.fnOf "_law_draw" "_law_draw" (defArgs s__law_draw) (defBody s__law_draw) (defScope s__law_draw) .none kV__law_draw dc__law_draw pm__law_draw an__law_draw cd__law_draw ct__law_draw), sl__law_draw⟩) (c__law_draw : PySem.W.codeIn K cd__law_draw "_law_draw" = true) (k__law_draw : PySem.W.keepIn K (.ref f__law_draw) = true) {f__law_worth : Addr} {oc__law_worth kV__law_worth dc__law_worth pm__law_worth cd__law_worth ct__law_worth : Value} {od__law_worth an__law_worth : Option Addr} {sl__law_worth : Array (Option Value)}
    (a__law_worth : PySem.W.nsIn K mainGlobals "_law_worth" = some (some (.ref f__law_worth))) (l__law_worth : K.lookup f__law_worth = some ⟨oc__law_worth, od__law_worth, .func (PySem.W.fnOf "_law_worth" "_law_worth" (defArgs s__law_worth) (defBody s__law_worth) (defScope s__law_worth) .none kV__law_worth dc__law_worth pm__law_worth an__law_worth cd__law_worth ct__law_worth), sl__law_worth⟩) (c__law_worth : PySem.W.codeIn K cd__law_worth "_law_worth" = true) (k__law_worth : PySem.W.keepIn K (.ref f__law_worth) = true) {f__law_row : Addr} {oc__law_row kV__law_row dc__law_row pm__law_row cd__law_row ct__law_row : Value} {od__law_row an__law_row : Option Addr} {sl__law_row : Array (Option Value)}
    (a__law_row : PySem.W.nsIn K mainGlobals "_law_row" = some (some (.ref f__law_row))) (l__law_row : K.lookup f__law_row = some ⟨oc__law_row, od__law_row, .func (PySem.W.fnOf "_law_row" "_law_row" (defArgs s__law_row) (defBody s__law_row) (defScope s__law_row) .none kV__law_row dc__law_row pm__law_row an__law_row cd__law_row ct__law_row), sl__law_row⟩) (c__law_row : PySem.W.codeIn K cd__law_row "_law_row" = true) (k__law_row : PySem.W.keepIn K (.ref f__law_row) = true) {f__law_mill : Addr} {oc__law_mill kV__law_mill dc__law_mill pm__law_mill cd__law_mill ct__law_mill : Value} {od__law_mill an__law_mill : Option Addr} {sl__law_mill : Array (Option Value)}
    (a__law_mill : PySem.W.nsIn K mainGlobals "_law_mill" = some (some (.ref f__law_mill))) (l__law_mill : K.lookup f__law_mill = some ⟨oc__law_mill, od__law_mill, .func (PySem.W.fnOf "_law_mill" "_law_mill" (defArgs s__law_mill) (defBody s__law_mill) (defScope s__law_mill) .none kV__law_mill dc__law_mill pm__law_mill an__law_mill cd__law_mill ct__law_mill), sl__law_mill⟩) (c__law_mill : PySem.W.codeIn K cd__law_mill "_law_mill" = true) (k__law_mill : PySem.W.keepIn K (.ref f__law_mill) = true) {f__law_state : Addr} {oc__law_state kV__law_state dc__law_state pm__law_state cd__law_state ct__law_state : Value} {od__law_state an__law_state : Option Addr} {sl__law_state : Array (Option Value)}
    (a__law_state : PySem.W.nsIn K mainGlobals "_law_state" = some (some (.ref f__law_state))) (l__law_state : K.lookup f__law_state = some ⟨oc__law_state, od__law_state, .func (PySem.W.fnOf "_law_state" "_law_state" (defArgs s__law_state) (defBody s__law_state) (defScope s__law_state) .none kV__law_state dc__law_state pm__law_state an__law_state cd__law_state ct__law_state), sl__law_state⟩) (c__law_state : PySem.W.codeIn K cd__law_state "_law_state" = true) (k__law_state : PySem.W.keepIn K (.ref f__law_state) = true) {f__law_far : Addr} {oc__law_far kV__law_far dc__law_far pm__law_far cd__law_far ct__law_far : Value} {od__law_far an__law_far : Option Addr} {sl__law_far : Array (Option Value)}
    (a__law_far : PySem.W.nsIn K mainGlobals "_law_far" = some (some (.ref f__law_far))) (l__law_far : K.lookup f__law_far = some ⟨oc__law_far, od__law_far, .func (PySem.W.fnOf "_law_far" "_law_far" (defArgs s__law_far) (defBody s__law_far) (defScope s__law_far) .none kV__law_far dc__law_far pm__law_far an__law_far cd__law_far ct__law_far), sl__law_far⟩) (c__law_far : PySem.W.codeIn K cd__law_far "_law_far" = true) (k__law_far : PySem.W.keepIn K (.ref f__law_far) = true) {f__law_rings : Addr} {oc__law_rings kV__law_rings dc__law_rings pm__law_rings cd__law_rings ct__law_rings : Value} {od__law_rings an__law_rings : Option Addr} {sl__law_rings : Array (Option Value)}
    (a__law_rings : PySem.W.nsIn K mainGlobals "_law_rings" = some (some (.ref f__law_rings))) (l__law_rings : K.lookup f__law_rings = some ⟨oc__law_rings, od__law_rings, .func (PySem.W.fnOf "_law_rings" "_law_rings" (defArgs s__law_rings) (defBody s__law_rings) (defScope s__law_rings) .none kV__law_rings dc__law_rings pm__law_rings an__law_rings cd__law_rings ct__law_rings), sl__law_rings⟩) (c__law_rings : PySem.W.codeIn K cd__law_rings "_law_rings" = true) (k__law_rings : PySem.W.keepIn K (.ref f__law_rings) = true) {f__law_terms : Addr} {oc__law_terms kV__law_terms dc__law_terms pm__law_terms cd__law_terms ct__law_terms : Value} {od__law_terms an__law_terms : Option Addr} {sl__law_terms : Array (Option Value)}
    (a__law_terms : PySem.W.nsIn K mainGlobals "_law_terms" = some (some (.ref f__law_terms))) (l__law_terms : K.lookup f__law_terms = some ⟨oc__law_terms, od__law_terms, .func (PySem.W.fnOf "_law_terms" "_law_terms" (defArgs s__law_terms) (defBody s__law_terms) (defScope s__law_terms) .none kV__law_terms dc__law_terms pm__law_terms an__law_terms cd__law_terms ct__law_terms), sl__law_terms⟩) (c__law_terms : PySem.W.codeIn K cd__law_terms "_law_terms" = true) (k__law_terms : PySem.W.keepIn K (.ref f__law_terms) = true) {f__law_begin : Addr} {oc__law_begin kV__law_begin dc__law_begin pm__law_begin cd__law_begin ct__law_begin : Value} {od__law_begin an__law_begin : Option Addr} {sl__law_begin : Array (Option Value)}
    (a__law_begin : PySem.W.nsIn K mainGlobals "_law_begin" = some (some (.ref f__law_begin))) (l__law_begin : K.lookup f__law_begin = some ⟨oc__law_begin, od__law_begin, .func (PySem.W.fnOf "_law_begin" "_law_begin" (defArgs s__law_begin) (defBody s__law_begin) (defScope s__law_begin) .none kV__law_begin dc__law_begin pm__law_begin an__law_begin cd__law_begin ct__law_begin), sl__law_begin⟩) (c__law_begin : PySem.W.codeIn K cd__law_begin "_law_begin" = true) (k__law_begin : PySem.W.keepIn K (.ref f__law_begin) = true) {f__law_waits : Addr} {oc__law_waits kV__law_waits dc__law_waits pm__law_waits cd__law_waits ct__law_waits : Value} {od__law_waits an__law_waits : Option Addr} {sl__law_waits : Array (Option Value)}
    (a__law_waits : PySem.W.nsIn K mainGlobals "_law_waits" = some (some (.ref f__law_waits))) (l__law_waits : K.lookup f__law_waits = some ⟨oc__law_waits, od__law_waits, .func (PySem.W.fnOf "_law_waits" "_law_waits" (defArgs s__law_waits) (defBody s__law_waits) (defScope s__law_waits) .none kV__law_waits dc__law_waits pm__law_waits an__law_waits cd__law_waits ct__law_waits), sl__law_waits⟩) (c__law_waits : PySem.W.codeIn K cd__law_waits "_law_waits" = true) (k__law_waits : PySem.W.keepIn K (.ref f__law_waits) = true) {f__law_due : Addr} {oc__law_due kV__law_due dc__law_due pm__law_due cd__law_due ct__law_due : Value} {od__law_due an__law_due : Option Addr} {sl__law_due : Array (Option Value)}
    (a__law_due : PySem.W.nsIn K mainGlobals "_law_due" = some (some (.ref f__law_due))) (l__law_due : K.lookup f__law_due = some ⟨oc__law_due, od__law_due, .func (PySem.W.fnOf "_law_due" "_law_due" (defArgs s__law_due) (defBody s__law_due) (defScope s__law_due) .none kV__law_due dc__law_due pm__law_due an__law_due cd__law_due ct__law_due), sl__law_due⟩) (c__law_due : PySem.W.codeIn K cd__law_due "_law_due" = true) (k__law_due : PySem.W.keepIn K (.ref f__law_due) = true) {f__law_end_cause : Addr} {oc__law_end_cause kV__law_end_cause dc__law_end_cause pm__law_end_cause cd__law_end_cause ct__law_end_cause : Value} {od__law_end_cause an__law_end_cause : Option Addr} {sl__law_end_cause : Array (Option Value)}
    (a__law_end_cause : PySem.W.nsIn K mainGlobals "_law_end_cause" = some (some (.ref f__law_end_cause))) (l__law_end_cause : K.lookup f__law_end_cause = some ⟨oc__law_end_cause, od__law_end_cause, .func (PySem.W.fnOf "_law_end_cause" "_law_end_cause" (defArgs s__law_end_cause) (defBody s__law_end_cause) (defScope s__law_end_cause) .none kV__law_end_cause dc__law_end_cause pm__law_end_cause an__law_end_cause cd__law_end_cause ct__law_end_cause), sl__law_end_cause⟩) (c__law_end_cause : PySem.W.codeIn K cd__law_end_cause "_law_end_cause" = true) (k__law_end_cause : PySem.W.keepIn K (.ref f__law_end_cause) = true) {f__law_cause : Addr} {oc__law_cause kV__law_cause dc__law_cause pm__law_cause cd__law_cause ct__law_cause : Value} {od__law_cause an__law_cause : Option Addr} {sl__law_cause : Array (Option Value)}
    (a__law_cause : PySem.W.nsIn K mainGlobals "_law_cause" = some (some (.ref f__law_cause))) (l__law_cause : K.lookup f__law_cause = some ⟨oc__law_cause, od__law_cause, .func (PySem.W.fnOf "_law_cause" "_law_cause" (defArgs s__law_cause) (defBody s__law_cause) (defScope s__law_cause) .none kV__law_cause dc__law_cause pm__law_cause an__law_cause cd__law_cause ct__law_cause), sl__law_cause⟩) (c__law_cause : PySem.W.codeIn K cd__law_cause "_law_cause" = true) (k__law_cause : PySem.W.keepIn K (.ref f__law_cause) = true) {f__law_sure : Addr} {oc__law_sure kV__law_sure dc__law_sure pm__law_sure cd__law_sure ct__law_sure : Value} {od__law_sure an__law_sure : Option Addr} {sl__law_sure : Array (Option Value)}
    (a__law_sure : PySem.W.nsIn K mainGlobals "_law_sure" = some (some (.ref f__law_sure))) (l__law_sure : K.lookup f__law_sure = some ⟨oc__law_sure, od__law_sure, .func (PySem.W.fnOf "_law_sure" "_law_sure" (defArgs s__law_sure) (defBody s__law_sure) (defScope s__law_sure) .none kV__law_sure dc__law_sure pm__law_sure an__law_sure cd__law_sure ct__law_sure), sl__law_sure⟩) (c__law_sure : PySem.W.codeIn K cd__law_sure "_law_sure" = true) (k__law_sure : PySem.W.keepIn K (.ref f__law_sure) = true) {f__law_some : Addr} {oc__law_some kV__law_some dc__law_some pm__law_some cd__law_some ct__law_some : Value} {od__law_some an__law_some : Option Addr} {sl__law_some : Array (Option Value)}
    (a__law_some : PySem.W.nsIn K mainGlobals "_law_some" = some (some (.ref f__law_some))) (l__law_some : K.lookup f__law_some = some ⟨oc__law_some, od__law_some, .func (PySem.W.fnOf "_law_some" "_law_some" (defArgs s__law_some) (defBody s__law_some) (defScope s__law_some) .none kV__law_some dc__law_some pm__law_some an__law_some cd__law_some ct__law_some), sl__law_some⟩) (c__law_some : PySem.W.codeIn K cd__law_some "_law_some" = true) (k__law_some : PySem.W.keepIn K (.ref f__law_some) = true) {f__law_wild : Addr} {oc__law_wild kV__law_wild dc__law_wild pm__law_wild cd__law_wild ct__law_wild : Value} {od__law_wild an__law_wild : Option Addr} {sl__law_wild : Array (Option Value)}
    (a__law_wild : PySem.W.nsIn K mainGlobals "_law_wild" = some (some (.ref f__law_wild))) (l__law_wild : K.lookup f__law_wild = some ⟨oc__law_wild, od__law_wild, .func (PySem.W.fnOf "_law_wild" "_law_wild" (defArgs s__law_wild) (defBody s__law_wild) (defScope s__law_wild) .none kV__law_wild dc__law_wild pm__law_wild an__law_wild cd__law_wild ct__law_wild), sl__law_wild⟩) (c__law_wild : PySem.W.codeIn K cd__law_wild "_law_wild" = true) (k__law_wild : PySem.W.keepIn K (.ref f__law_wild) = true) {f__law_other_number : Addr} {oc__law_other_number kV__law_other_number dc__law_other_number pm__law_other_number cd__law_other_number ct__law_other_number : Value} {od__law_other_number an__law_other_number : Option Addr} {sl__law_other_number : Array (Option Value)}
    (a__law_other_number : PySem.W.nsIn K mainGlobals "_law_other_number" = some (some (.ref f__law_other_number))) (l__law_other_number : K.lookup f__law_other_number = some ⟨oc__law_other_number, od__law_other_number, .func (PySem.W.fnOf "_law_other_number" "_law_other_number" (defArgs s__law_other_number) (defBody s__law_other_number) (defScope s__law_other_number) .none kV__law_other_number dc__law_other_number pm__law_other_number an__law_other_number cd__law_other_number ct__law_other_number), sl__law_other_number⟩) (c__law_other_number : PySem.W.codeIn K cd__law_other_number "_law_other_number" = true) (k__law_other_number : PySem.W.keepIn K (.ref f__law_other_number) = true) {f__law_other_wrote : Addr} {oc__law_other_wrote kV__law_other_wrote dc__law_other_wrote pm__law_other_wrote cd__law_other_wrote ct__law_other_wrote : Value} {od__law_other_wrote an__law_other_wrote : Option Addr} {sl__law_other_wrote : Array (Option Value)}
    (a__law_other_wrote : PySem.W.nsIn K mainGlobals "_law_other_wrote" = some (some (.ref f__law_other_wrote))) (l__law_other_wrote : K.lookup f__law_other_wrote = some ⟨oc__law_other_wrote, od__law_other_wrote, .func (PySem.W.fnOf "_law_other_wrote" "_law_other_wrote" (defArgs s__law_other_wrote) (defBody s__law_other_wrote) (defScope s__law_other_wrote) .none kV__law_other_wrote dc__law_other_wrote pm__law_other_wrote an__law_other_wrote cd__law_other_wrote ct__law_other_wrote), sl__law_other_wrote⟩) (c__law_other_wrote : PySem.W.codeIn K cd__law_other_wrote "_law_other_wrote" = true) (k__law_other_wrote : PySem.W.keepIn K (.ref f__law_other_wrote) = true) {f__law_spoilt : Addr} {oc__law_spoilt kV__law_spoilt dc__law_spoilt pm__law_spoilt cd__law_spoilt ct__law_spoilt : Value} {od__law_spoilt an__law_spoilt : Option Addr} {sl__law_spoilt : Array (Option Value)}
    (a__law_spoilt : PySem.W.nsIn K mainGlobals "_law_spoilt" = some (some (.ref f__law_spoilt))) (l__law_spoilt : K.lookup f__law_spoilt = some ⟨oc__law_spoilt, od__law_spoilt, .func (PySem.W.fnOf "_law_spoilt" "_law_spoilt" (defArgs s__law_spoilt) (defBody s__law_spoilt) (defScope s__law_spoilt) .none kV__law_spoilt dc__law_spoilt pm__law_spoilt an__law_spoilt cd__law_spoilt ct__law_spoilt), sl__law_spoilt⟩) (c__law_spoilt : PySem.W.codeIn K cd__law_spoilt "_law_spoilt" = true) (k__law_spoilt : PySem.W.keepIn K (.ref f__law_spoilt) = true) {f__law_goes : Addr} {oc__law_goes kV__law_goes dc__law_goes pm__law_goes cd__law_goes ct__law_goes : Value} {od__law_goes an__law_goes : Option Addr} {sl__law_goes : Array (Option Value)}
    (a__law_goes : PySem.W.nsIn K mainGlobals "_law_goes" = some (some (.ref f__law_goes))) (l__law_goes : K.lookup f__law_goes = some ⟨oc__law_goes, od__law_goes, .func (PySem.W.fnOf "_law_goes" "_law_goes" (defArgs s__law_goes) (defBody s__law_goes) (defScope s__law_goes) .none kV__law_goes dc__law_goes pm__law_goes an__law_goes cd__law_goes ct__law_goes), sl__law_goes⟩) (c__law_goes : PySem.W.codeIn K cd__law_goes "_law_goes" = true) (k__law_goes : PySem.W.keepIn K (.ref f__law_goes) = true) {f__law_take_up : Addr} {oc__law_take_up kV__law_take_up dc__law_take_up pm__law_take_up cd__law_take_up ct__law_take_up : Value} {od__law_take_up an__law_take_up : Option Addr} {sl__law_take_up : Array (Option Value)}
    (a__law_take_up : PySem.W.nsIn K mainGlobals "_law_take_up" = some (some (.ref f__law_take_up))) (l__law_take_up : K.lookup f__law_take_up = some ⟨oc__law_take_up, od__law_take_up, .func (PySem.W.fnOf "_law_take_up" "_law_take_up" (defArgs s__law_take_up) (defBody s__law_take_up) (defScope s__law_take_up) .none kV__law_take_up dc__law_take_up pm__law_take_up an__law_take_up cd__law_take_up ct__law_take_up), sl__law_take_up⟩) (c__law_take_up : PySem.W.codeIn K cd__law_take_up "_law_take_up" = true) (k__law_take_up : PySem.W.keepIn K (.ref f__law_take_up) = true) {f__law_tale : Addr} {oc__law_tale kV__law_tale dc__law_tale pm__law_tale cd__law_tale ct__law_tale : Value} {od__law_tale an__law_tale : Option Addr} {sl__law_tale : Array (Option Value)}
    (a__law_tale : PySem.W.nsIn K mainGlobals "_law_tale" = some (some (.ref f__law_tale))) (l__law_tale : K.lookup f__law_tale = some ⟨oc__law_tale, od__law_tale, .func (PySem.W.fnOf "_law_tale" "_law_tale" (defArgs s__law_tale) (defBody s__law_tale) (defScope s__law_tale) .none kV__law_tale dc__law_tale pm__law_tale an__law_tale cd__law_tale ct__law_tale), sl__law_tale⟩) (c__law_tale : PySem.W.codeIn K cd__law_tale "_law_tale" = true) (k__law_tale : PySem.W.keepIn K (.ref f__law_tale) = true) {f_first_stand : Addr} {oc_first_stand kV_first_stand dc_first_stand pm_first_stand cd_first_stand ct_first_stand : Value} {od_first_stand an_first_stand : Option Addr} {sl_first_stand : Array (Option Value)}
    (a_first_stand : PySem.W.nsIn K mainGlobals "first_stand" = some (some (.ref f_first_stand))) (l_first_stand : K.lookup f_first_stand = some ⟨oc_first_stand, od_first_stand, .func (PySem.W.fnOf "first_stand" "first_stand" (defArgs s_first_stand) (defBody s_first_stand) (defScope s_first_stand) .none kV_first_stand dc_first_stand pm_first_stand an_first_stand cd_first_stand ct_first_stand), sl_first_stand⟩) (c_first_stand : PySem.W.codeIn K cd_first_stand "first_stand" = true) (k_first_stand : PySem.W.keepIn K (.ref f_first_stand) = true) {f_rests : Addr} {oc_rests kV_rests dc_rests pm_rests cd_rests ct_rests : Value} {od_rests an_rests : Option Addr} {sl_rests : Array (Option Value)}
    (a_rests : PySem.W.nsIn K mainGlobals "rests" = some (some (.ref f_rests))) (l_rests : K.lookup f_rests = some ⟨oc_rests, od_rests, .func (PySem.W.fnOf "rests" "rests" (defArgs s_rests) (defBody s_rests) (defScope s_rests) .none kV_rests dc_rests pm_rests an_rests cd_rests ct_rests), sl_rests⟩) (c_rests : PySem.W.codeIn K cd_rests "rests" = true) (k_rests : PySem.W.keepIn K (.ref f_rests) = true) {f_waiting : Addr} {oc_waiting kV_waiting dc_waiting pm_waiting cd_waiting ct_waiting : Value} {od_waiting an_waiting : Option Addr} {sl_waiting : Array (Option Value)}
    (a_waiting : PySem.W.nsIn K mainGlobals "waiting" = some (some (.ref f_waiting))) (l_waiting : K.lookup f_waiting = some ⟨oc_waiting, od_waiting, .func (PySem.W.fnOf "waiting" "waiting" (defArgs s_waiting) (defBody s_waiting) (defScope s_waiting) .none kV_waiting dc_waiting pm_waiting an_waiting cd_waiting ct_waiting), sl_waiting⟩) (c_waiting : PySem.W.codeIn K cd_waiting "waiting" = true) (k_waiting : PySem.W.keepIn K (.ref f_waiting) = true) {f_is_pressed : Addr} {oc_is_pressed kV_is_pressed dc_is_pressed pm_is_pressed cd_is_pressed ct_is_pressed : Value} {od_is_pressed an_is_pressed : Option Addr} {sl_is_pressed : Array (Option Value)}
    (a_is_pressed : PySem.W.nsIn K mainGlobals "is_pressed" = some (some (.ref f_is_pressed))) (l_is_pressed : K.lookup f_is_pressed = some ⟨oc_is_pressed, od_is_pressed, .func (PySem.W.fnOf "is_pressed" "is_pressed" (defArgs s_is_pressed) (defBody s_is_pressed) (defScope s_is_pressed) .none kV_is_pressed dc_is_pressed pm_is_pressed an_is_pressed cd_is_pressed ct_is_pressed), sl_is_pressed⟩) (c_is_pressed : PySem.W.codeIn K cd_is_pressed "is_pressed" = true) (k_is_pressed : PySem.W.keepIn K (.ref f_is_pressed) = true) {f_spots_read : Addr} {oc_spots_read kV_spots_read dc_spots_read pm_spots_read cd_spots_read ct_spots_read : Value} {od_spots_read an_spots_read : Option Addr} {sl_spots_read : Array (Option Value)}
    (a_spots_read : PySem.W.nsIn K mainGlobals "spots_read" = some (some (.ref f_spots_read))) (l_spots_read : K.lookup f_spots_read = some ⟨oc_spots_read, od_spots_read, .func (PySem.W.fnOf "spots_read" "spots_read" (defArgs s_spots_read) (defBody s_spots_read) (defScope s_spots_read) .none kV_spots_read dc_spots_read pm_spots_read an_spots_read cd_spots_read ct_spots_read), sl_spots_read⟩) (c_spots_read : PySem.W.codeIn K cd_spots_read "spots_read" = true) (k_spots_read : PySem.W.keepIn K (.ref f_spots_read) = true) {f_spot_written : Addr} {oc_spot_written kV_spot_written dc_spot_written pm_spot_written cd_spot_written ct_spot_written : Value} {od_spot_written an_spot_written : Option Addr} {sl_spot_written : Array (Option Value)}
    (a_spot_written : PySem.W.nsIn K mainGlobals "spot_written" = some (some (.ref f_spot_written))) (l_spot_written : K.lookup f_spot_written = some ⟨oc_spot_written, od_spot_written, .func (PySem.W.fnOf "spot_written" "spot_written" (defArgs s_spot_written) (defBody s_spot_written) (defScope s_spot_written) .none kV_spot_written dc_spot_written pm_spot_written an_spot_written cd_spot_written ct_spot_written), sl_spot_written⟩) (c_spot_written : PySem.W.codeIn K cd_spot_written "spot_written" = true) (k_spot_written : PySem.W.keepIn K (.ref f_spot_written) = true) {f_cell_at : Addr} {oc_cell_at kV_cell_at dc_cell_at pm_cell_at cd_cell_at ct_cell_at : Value} {od_cell_at an_cell_at : Option Addr} {sl_cell_at : Array (Option Value)}
    (a_cell_at : PySem.W.nsIn K mainGlobals "cell_at" = some (some (.ref f_cell_at))) (l_cell_at : K.lookup f_cell_at = some ⟨oc_cell_at, od_cell_at, .func (PySem.W.fnOf "cell_at" "cell_at" (defArgs s_cell_at) (defBody s_cell_at) (defScope s_cell_at) .none kV_cell_at dc_cell_at pm_cell_at an_cell_at cd_cell_at ct_cell_at), sl_cell_at⟩) (c_cell_at : PySem.W.codeIn K cd_cell_at "cell_at" = true) (k_cell_at : PySem.W.keepIn K (.ref f_cell_at) = true) {f_wrapped : Addr} {oc_wrapped kV_wrapped dc_wrapped pm_wrapped cd_wrapped ct_wrapped : Value} {od_wrapped an_wrapped : Option Addr} {sl_wrapped : Array (Option Value)}
    (a_wrapped : PySem.W.nsIn K mainGlobals "wrapped" = some (some (.ref f_wrapped))) (l_wrapped : K.lookup f_wrapped = some ⟨oc_wrapped, od_wrapped, .func (PySem.W.fnOf "wrapped" "wrapped" (defArgs s_wrapped) (defBody s_wrapped) (defScope s_wrapped) .none kV_wrapped dc_wrapped pm_wrapped an_wrapped cd_wrapped ct_wrapped), sl_wrapped⟩) (c_wrapped : PySem.W.codeIn K cd_wrapped "wrapped" = true) (k_wrapped : PySem.W.keepIn K (.ref f_wrapped) = true) {f_worth_by : Addr} {oc_worth_by kV_worth_by dc_worth_by pm_worth_by cd_worth_by ct_worth_by : Value} {od_worth_by an_worth_by : Option Addr} {sl_worth_by : Array (Option Value)}
    (a_worth_by : PySem.W.nsIn K mainGlobals "worth_by" = some (some (.ref f_worth_by))) (l_worth_by : K.lookup f_worth_by = some ⟨oc_worth_by, od_worth_by, .func (PySem.W.fnOf "worth_by" "worth_by" (defArgs s_worth_by) (defBody s_worth_by) (defScope s_worth_by) .none kV_worth_by dc_worth_by pm_worth_by an_worth_by cd_worth_by ct_worth_by), sl_worth_by⟩) (c_worth_by : PySem.W.codeIn K cd_worth_by "worth_by" = true) (k_worth_by : PySem.W.keepIn K (.ref f_worth_by) = true) {f_wrote_by : Addr} {oc_wrote_by kV_wrote_by dc_wrote_by pm_wrote_by cd_wrote_by ct_wrote_by : Value} {od_wrote_by an_wrote_by : Option Addr} {sl_wrote_by : Array (Option Value)}
    (a_wrote_by : PySem.W.nsIn K mainGlobals "wrote_by" = some (some (.ref f_wrote_by))) (l_wrote_by : K.lookup f_wrote_by = some ⟨oc_wrote_by, od_wrote_by, .func (PySem.W.fnOf "wrote_by" "wrote_by" (defArgs s_wrote_by) (defBody s_wrote_by) (defScope s_wrote_by) .none kV_wrote_by dc_wrote_by pm_wrote_by an_wrote_by cd_wrote_by ct_wrote_by), sl_wrote_by⟩) (c_wrote_by : PySem.W.codeIn K cd_wrote_by "wrote_by" = true) (k_wrote_by : PySem.W.keepIn K (.ref f_wrote_by) = true) {f_place_behind : Addr} {oc_place_behind kV_place_behind dc_place_behind pm_place_behind cd_place_behind ct_place_behind : Value} {od_place_behind an_place_behind : Option Addr} {sl_place_behind : Array (Option Value)}
    (a_place_behind : PySem.W.nsIn K mainGlobals "place_behind" = some (some (.ref f_place_behind))) (l_place_behind : K.lookup f_place_behind = some ⟨oc_place_behind, od_place_behind, .func (PySem.W.fnOf "place_behind" "place_behind" (defArgs s_place_behind) (defBody s_place_behind) (defScope s_place_behind) .none kV_place_behind dc_place_behind pm_place_behind an_place_behind cd_place_behind ct_place_behind), sl_place_behind⟩) (c_place_behind : PySem.W.codeIn K cd_place_behind "place_behind" = true) (k_place_behind : PySem.W.keepIn K (.ref f_place_behind) = true) {f_put_at : Addr} {oc_put_at kV_put_at dc_put_at pm_put_at cd_put_at ct_put_at : Value} {od_put_at an_put_at : Option Addr} {sl_put_at : Array (Option Value)}
    (a_put_at : PySem.W.nsIn K mainGlobals "put_at" = some (some (.ref f_put_at))) (l_put_at : K.lookup f_put_at = some ⟨oc_put_at, od_put_at, .func (PySem.W.fnOf "put_at" "put_at" (defArgs s_put_at) (defBody s_put_at) (defScope s_put_at) .none kV_put_at dc_put_at pm_put_at an_put_at cd_put_at ct_put_at), sl_put_at⟩) (c_put_at : PySem.W.codeIn K cd_put_at "put_at" = true) (k_put_at : PySem.W.keepIn K (.ref f_put_at) = true) {f_step : Addr} {oc_step kV_step dc_step pm_step cd_step ct_step : Value} {od_step an_step : Option Addr} {sl_step : Array (Option Value)}
    (a_step : PySem.W.nsIn K mainGlobals "step" = some (some (.ref f_step))) (l_step : K.lookup f_step = some ⟨oc_step, od_step, .func (PySem.W.fnOf "step" "step" (defArgs s_step) (defBody s_step) (defScope s_step) .none kV_step dc_step pm_step an_step cd_step ct_step), sl_step⟩) (c_step : PySem.W.codeIn K cd_step "step" = true) (k_step : PySem.W.keepIn K (.ref f_step) = true) {f_is_slow : Addr} {oc_is_slow kV_is_slow dc_is_slow pm_is_slow cd_is_slow ct_is_slow : Value} {od_is_slow an_is_slow : Option Addr} {sl_is_slow : Array (Option Value)}
    (a_is_slow : PySem.W.nsIn K mainGlobals "is_slow" = some (some (.ref f_is_slow))) (l_is_slow : K.lookup f_is_slow = some ⟨oc_is_slow, od_is_slow, .func (PySem.W.fnOf "is_slow" "is_slow" (defArgs s_is_slow) (defBody s_is_slow) (defScope s_is_slow) .none kV_is_slow dc_is_slow pm_is_slow an_is_slow cd_is_slow ct_is_slow), sl_is_slow⟩) (c_is_slow : PySem.W.codeIn K cd_is_slow "is_slow" = true) (k_is_slow : PySem.W.keepIn K (.ref f_is_slow) = true) {f_wrote_cause : Addr} {oc_wrote_cause kV_wrote_cause dc_wrote_cause pm_wrote_cause cd_wrote_cause ct_wrote_cause : Value} {od_wrote_cause an_wrote_cause : Option Addr} {sl_wrote_cause : Array (Option Value)}
    (a_wrote_cause : PySem.W.nsIn K mainGlobals "wrote_cause" = some (some (.ref f_wrote_cause))) (l_wrote_cause : K.lookup f_wrote_cause = some ⟨oc_wrote_cause, od_wrote_cause, .func (PySem.W.fnOf "wrote_cause" "wrote_cause" (defArgs s_wrote_cause) (defBody s_wrote_cause) (defScope s_wrote_cause) .none kV_wrote_cause dc_wrote_cause pm_wrote_cause an_wrote_cause cd_wrote_cause ct_wrote_cause), sl_wrote_cause⟩) (c_wrote_cause : PySem.W.codeIn K cd_wrote_cause "wrote_cause" = true) (k_wrote_cause : PySem.W.keepIn K (.ref f_wrote_cause) = true) {f_end_cause : Addr} {oc_end_cause kV_end_cause dc_end_cause pm_end_cause cd_end_cause ct_end_cause : Value} {od_end_cause an_end_cause : Option Addr} {sl_end_cause : Array (Option Value)}
    (a_end_cause : PySem.W.nsIn K mainGlobals "end_cause" = some (some (.ref f_end_cause))) (l_end_cause : K.lookup f_end_cause = some ⟨oc_end_cause, od_end_cause, .func (PySem.W.fnOf "end_cause" "end_cause" (defArgs s_end_cause) (defBody s_end_cause) (defScope s_end_cause) .none kV_end_cause dc_end_cause pm_end_cause an_end_cause cd_end_cause ct_end_cause), sl_end_cause⟩) (c_end_cause : PySem.W.codeIn K cd_end_cause "end_cause" = true) (k_end_cause : PySem.W.keepIn K (.ref f_end_cause) = true) {f_late_cause : Addr} {oc_late_cause kV_late_cause dc_late_cause pm_late_cause cd_late_cause ct_late_cause : Value} {od_late_cause an_late_cause : Option Addr} {sl_late_cause : Array (Option Value)}
    (a_late_cause : PySem.W.nsIn K mainGlobals "late_cause" = some (some (.ref f_late_cause))) (l_late_cause : K.lookup f_late_cause = some ⟨oc_late_cause, od_late_cause, .func (PySem.W.fnOf "late_cause" "late_cause" (defArgs s_late_cause) (defBody s_late_cause) (defScope s_late_cause) .none kV_late_cause dc_late_cause pm_late_cause an_late_cause cd_late_cause ct_late_cause), sl_late_cause⟩) (c_late_cause : PySem.W.codeIn K cd_late_cause "late_cause" = true) (k_late_cause : PySem.W.keepIn K (.ref f_late_cause) = true) {f_down_cause : Addr} {oc_down_cause kV_down_cause dc_down_cause pm_down_cause cd_down_cause ct_down_cause : Value} {od_down_cause an_down_cause : Option Addr} {sl_down_cause : Array (Option Value)}
    (a_down_cause : PySem.W.nsIn K mainGlobals "down_cause" = some (some (.ref f_down_cause))) (l_down_cause : K.lookup f_down_cause = some ⟨oc_down_cause, od_down_cause, .func (PySem.W.fnOf "down_cause" "down_cause" (defArgs s_down_cause) (defBody s_down_cause) (defScope s_down_cause) .none kV_down_cause dc_down_cause pm_down_cause an_down_cause cd_down_cause ct_down_cause), sl_down_cause⟩) (c_down_cause : PySem.W.codeIn K cd_down_cause "down_cause" = true) (k_down_cause : PySem.W.keepIn K (.ref f_down_cause) = true) {f_bell_cause : Addr} {oc_bell_cause kV_bell_cause dc_bell_cause pm_bell_cause cd_bell_cause ct_bell_cause : Value} {od_bell_cause an_bell_cause : Option Addr} {sl_bell_cause : Array (Option Value)}
    (a_bell_cause : PySem.W.nsIn K mainGlobals "bell_cause" = some (some (.ref f_bell_cause))) (l_bell_cause : K.lookup f_bell_cause = some ⟨oc_bell_cause, od_bell_cause, .func (PySem.W.fnOf "bell_cause" "bell_cause" (defArgs s_bell_cause) (defBody s_bell_cause) (defScope s_bell_cause) .none kV_bell_cause dc_bell_cause pm_bell_cause an_bell_cause cd_bell_cause ct_bell_cause), sl_bell_cause⟩) (c_bell_cause : PySem.W.codeIn K cd_bell_cause "bell_cause" = true) (k_bell_cause : PySem.W.keepIn K (.ref f_bell_cause) = true) {f_cause_of : Addr} {oc_cause_of kV_cause_of dc_cause_of pm_cause_of cd_cause_of ct_cause_of : Value} {od_cause_of an_cause_of : Option Addr} {sl_cause_of : Array (Option Value)}
    (a_cause_of : PySem.W.nsIn K mainGlobals "cause_of" = some (some (.ref f_cause_of))) (l_cause_of : K.lookup f_cause_of = some ⟨oc_cause_of, od_cause_of, .func (PySem.W.fnOf "cause_of" "cause_of" (defArgs s_cause_of) (defBody s_cause_of) (defScope s_cause_of) .none kV_cause_of dc_cause_of pm_cause_of an_cause_of cd_cause_of ct_cause_of), sl_cause_of⟩) (c_cause_of : PySem.W.codeIn K cd_cause_of "cause_of" = true) (k_cause_of : PySem.W.keepIn K (.ref f_cause_of) = true) {f_ask_bell : Addr} {oc_ask_bell kV_ask_bell dc_ask_bell pm_ask_bell cd_ask_bell ct_ask_bell : Value} {od_ask_bell an_ask_bell : Option Addr} {sl_ask_bell : Array (Option Value)}
    (a_ask_bell : PySem.W.nsIn K mainGlobals "ask_bell" = some (some (.ref f_ask_bell))) (l_ask_bell : K.lookup f_ask_bell = some ⟨oc_ask_bell, od_ask_bell, .func (PySem.W.fnOf "ask_bell" "ask_bell" (defArgs s_ask_bell) (defBody s_ask_bell) (defScope s_ask_bell) .none kV_ask_bell dc_ask_bell pm_ask_bell an_ask_bell cd_ask_bell ct_ask_bell), sl_ask_bell⟩) (c_ask_bell : PySem.W.codeIn K cd_ask_bell "ask_bell" = true) (k_ask_bell : PySem.W.keepIn K (.ref f_ask_bell) = true) {f_bell : Addr} {oc_bell kV_bell dc_bell pm_bell cd_bell ct_bell : Value} {od_bell an_bell : Option Addr} {sl_bell : Array (Option Value)}
    (a_bell : PySem.W.nsIn K mainGlobals "bell" = some (some (.ref f_bell))) (l_bell : K.lookup f_bell = some ⟨oc_bell, od_bell, .func (PySem.W.fnOf "bell" "bell" (defArgs s_bell) (defBody s_bell) (defScope s_bell) .none kV_bell dc_bell pm_bell an_bell cd_bell ct_bell), sl_bell⟩) (c_bell : PySem.W.codeIn K cd_bell "bell" = true) (k_bell : PySem.W.keepIn K (.ref f_bell) = true) {f_taken_up : Addr} {oc_taken_up kV_taken_up dc_taken_up pm_taken_up cd_taken_up ct_taken_up : Value} {od_taken_up an_taken_up : Option Addr} {sl_taken_up : Array (Option Value)}
    (a_taken_up : PySem.W.nsIn K mainGlobals "taken_up" = some (some (.ref f_taken_up))) (l_taken_up : K.lookup f_taken_up = some ⟨oc_taken_up, od_taken_up, .func (PySem.W.fnOf "taken_up" "taken_up" (defArgs s_taken_up) (defBody s_taken_up) (defScope s_taken_up) .none kV_taken_up dc_taken_up pm_taken_up an_taken_up cd_taken_up ct_taken_up), sl_taken_up⟩) (c_taken_up : PySem.W.codeIn K cd_taken_up "taken_up" = true) (k_taken_up : PySem.W.keepIn K (.ref f_taken_up) = true) {f_parting : Addr} {oc_parting kV_parting dc_parting pm_parting cd_parting ct_parting : Value} {od_parting an_parting : Option Addr} {sl_parting : Array (Option Value)}
    (a_parting : PySem.W.nsIn K mainGlobals "parting" = some (some (.ref f_parting))) (l_parting : K.lookup f_parting = some ⟨oc_parting, od_parting, .func (PySem.W.fnOf "parting" "parting" (defArgs s_parting) (defBody s_parting) (defScope s_parting) .none kV_parting dc_parting pm_parting an_parting cd_parting ct_parting), sl_parting⟩) (c_parting : PySem.W.codeIn K cd_parting "parting" = true) (k_parting : PySem.W.keepIn K (.ref f_parting) = true) {f__law_right : Addr} {oc__law_right kV__law_right dc__law_right pm__law_right cd__law_right ct__law_right : Value} {od__law_right an__law_right : Option Addr} {sl__law_right : Array (Option Value)}
    (a__law_right : PySem.W.nsIn K mainGlobals "_law_right" = some (some (.ref f__law_right))) (l__law_right : K.lookup f__law_right = some ⟨oc__law_right, od__law_right, .func (PySem.W.fnOf "_law_right" "_law_right" (defArgs s__law_right) (defBody s__law_right) (defScope s__law_right) .none kV__law_right dc__law_right pm__law_right an__law_right cd__law_right ct__law_right), sl__law_right⟩) (c__law_right : PySem.W.codeIn K cd__law_right "_law_right" = true) (k__law_right : PySem.W.keepIn K (.ref f__law_right) = true) {f_init : Addr} {oc_init kV_init dc_init pm_init cd_init ct_init : Value} {od_init an_init : Option Addr} {sl_init : Array (Option Value)}
    (a_init : PySem.W.findIn K (.ref C) "__init__" = some (some (.ref f_init))) (i_init : PySem.W.isFn K (.ref f_init) = true) (l_init : K.lookup f_init = some ⟨oc_init, od_init, .func (PySem.W.fnOf "__init__" "Holder.__init__" (defArgs s_Holder___init__) (defBody s_Holder___init__) (defScope s_Holder___init__) .none kV_init dc_init pm_init an_init cd_init ct_init), sl_init⟩) (c_init : PySem.W.codeIn K cd_init "Holder.__init__" = true) (k_init : PySem.W.keepIn K (.ref f_init) = true) {f_tell : Addr} {oc_tell kV_tell dc_tell pm_tell cd_tell ct_tell : Value} {od_tell an_tell : Option Addr} {sl_tell : Array (Option Value)}
    (a_tell : PySem.W.findIn K (.ref C) "tell" = some (some (.ref f_tell))) (i_tell : PySem.W.isFn K (.ref f_tell) = true) (l_tell : K.lookup f_tell = some ⟨oc_tell, od_tell, .func (PySem.W.fnOf "tell" "Holder.tell" (defArgs s_Holder_tell) (defBody s_Holder_tell) (defScope s_Holder_tell) .none kV_tell dc_tell pm_tell an_tell cd_tell ct_tell), sl_tell⟩) (c_tell : PySem.W.codeIn K cd_tell "Holder.tell" = true) (k_tell : PySem.W.keepIn K (.ref f_tell) = true) {f_parted : Addr} {oc_parted kV_parted dc_parted pm_parted cd_parted ct_parted : Value} {od_parted an_parted : Option Addr} {sl_parted : Array (Option Value)}
    (a_parted : PySem.W.findIn K (.ref C) "parted" = some (some (.ref f_parted))) (i_parted : PySem.W.isFn K (.ref f_parted) = true) (l_parted : K.lookup f_parted = some ⟨oc_parted, od_parted, .func (PySem.W.fnOf "parted" "Holder.parted" (defArgs s_Holder_parted) (defBody s_Holder_parted) (defScope s_Holder_parted) .none kV_parted dc_parted pm_parted an_parted cd_parted ct_parted), sl_parted⟩) (c_parted : PySem.W.codeIn K cd_parted "Holder.parted" = true) (k_parted : PySem.W.keepIn K (.ref f_parted) = true) {f_law : Addr} {oc_law kV_law dc_law pm_law cd_law ct_law : Value} {od_law an_law : Option Addr} {sl_law : Array (Option Value)}
    (a_law : PySem.W.nsIn K mainGlobals "law" = some (some (.ref f_law))) (l_law : K.lookup f_law = some ⟨oc_law, od_law, .func (PySem.W.fnOf "law" "law" (defArgs s_law) (defBody s_law) (defScope s_law) .none kV_law dc_law pm_law an_law cd_law ct_law), sl_law⟩) (c_law : PySem.W.codeIn K cd_law "law" = true) (k_law : PySem.W.keepIn K (.ref f_law) = true)
    (pg : PySem.W.plainGet K C Str.empty = true) (hd : PySem.W.hasDictIn K C = true) (po : PySem.W.plainOver K C = true) (sa : PySem.W.findIn K (.ref C) "__setattr__" = some (some (.builtin "object.__setattr__"))) (mk : PySem.W.makesIn K C = true) (kc : PySem.W.keepIn K (.ref C) = true)
    (n_mill : PySem.W.findIn K (.ref C) "mill" = some none) (n_rings : PySem.W.findIn K (.ref C) "rings" = some none) (n_terms : PySem.W.findIn K (.ref C) "terms" = some none) (n_stand : PySem.W.findIn K (.ref C) "stand" = some none) (n_many : PySem.W.findIn K (.ref C) "many" = some none) (n_cause : PySem.W.findIn K (.ref C) "cause" = some none)
    (z_len : PySem.W.nsIn K mainGlobals "len" = some none) (z_max : PySem.W.nsIn K mainGlobals "max" = some none) (z_sorted : PySem.W.nsIn K mainGlobals "sorted" = some none) (z_isinstance : PySem.W.nsIn K mainGlobals "isinstance" = some none) (z_set : PySem.W.nsIn K mainGlobals "set" = some none) (z_int : PySem.W.nsIn K mainGlobals "int" = some none) (z_tuple : PySem.W.nsIn K mainGlobals "tuple" = some none) (z_list : PySem.W.nsIn K mainGlobals "list" = some none) (z_str : PySem.W.nsIn K mainGlobals "str" = some none) (z_bool : PySem.W.nsIn K mainGlobals "bool" = some none) (z_range : PySem.W.nsIn K mainGlobals "range" = some none)
    {t1 t2 : Nat} (w1 : PySem.W.nsIn K mainGlobals "CELLS" = some (some (.int 16 t1))) (w2 : PySem.W.nsIn K mainGlobals "WORTHS" = some (some (.int 4294967296 t2))) :
    ∃ fd : FuncData, (∀ (s : Shared) (v : Value), BindsTo s fd ⟨[v], []⟩ [("script", v)]) ∧ ∀ base : Heap, K.In base → base.Ns mainGlobals mg → FnOk l.prog w K mg base CX0 10 fa fd ["script"] (spLaw K) := by
  have e := hfa.symm.trans (PySem.W.mg_of X G a_law)
  cases e
  have B := bl_mk X G z_len z_max z_sorted z_isinstance z_set z_int z_tuple z_list z_str z_bool z_range
  have T0 := cs_mk X G w1 w2
  have T : HTx K C := ⟨⟨pg, hd, po, sa⟩, n_mill, n_rings, n_terms, n_stand, n_many, n_cause⟩
  exact ⟨PySem.W.fnOf "law" "law" (defArgs s_law) (defBody s_law) (defScope s_law) .none kV_law dc_law pm_law an_law cd_law ct_law, fun s v => .of_eq rfl, fun base _ _ =>
    law_all B T0 T (PySem.W.mg_of X G aC) (fu__law_bag X G a__law_bag l__law_bag c__law_bag k__law_bag) (fu__law_draw X G a__law_draw l__law_draw c__law_draw k__law_draw) (fu__law_worth X G a__law_worth l__law_worth c__law_worth k__law_worth) (fu__law_row X G a__law_row l__law_row c__law_row k__law_row) (fu__law_mill X G a__law_mill l__law_mill c__law_mill k__law_mill) (fu__law_state X G a__law_state l__law_state c__law_state k__law_state) (fu__law_far X G a__law_far l__law_far c__law_far k__law_far) (fu__law_rings X G a__law_rings l__law_rings c__law_rings k__law_rings) (fu__law_terms X G a__law_terms l__law_terms c__law_terms k__law_terms) (fu__law_begin X G a__law_begin l__law_begin c__law_begin k__law_begin) (fu__law_waits X G a__law_waits l__law_waits c__law_waits k__law_waits) (fu__law_due X G a__law_due l__law_due c__law_due k__law_due) (fu__law_end_cause X G a__law_end_cause l__law_end_cause c__law_end_cause k__law_end_cause) (fu__law_cause X G a__law_cause l__law_cause c__law_cause k__law_cause) (fu__law_sure X G a__law_sure l__law_sure c__law_sure k__law_sure) (fu__law_some X G a__law_some l__law_some c__law_some k__law_some) (fu__law_wild X G a__law_wild l__law_wild c__law_wild k__law_wild) (fu__law_other_number X G a__law_other_number l__law_other_number c__law_other_number k__law_other_number) (fu__law_other_wrote X G a__law_other_wrote l__law_other_wrote c__law_other_wrote k__law_other_wrote) (fu__law_spoilt X G a__law_spoilt l__law_spoilt c__law_spoilt k__law_spoilt) (fu__law_goes X G a__law_goes l__law_goes c__law_goes k__law_goes) (fu__law_take_up X G a__law_take_up l__law_take_up c__law_take_up k__law_take_up) (fu__law_tale X G a__law_tale l__law_tale c__law_tale k__law_tale) (fu_first_stand X G a_first_stand l_first_stand c_first_stand k_first_stand) (fu_rests X G a_rests l_rests c_rests k_rests) (fu_waiting X G a_waiting l_waiting c_waiting k_waiting) (fu_is_pressed X G a_is_pressed l_is_pressed c_is_pressed k_is_pressed) (fu_spots_read X G a_spots_read l_spots_read c_spots_read k_spots_read) (fu_spot_written X G a_spot_written l_spot_written c_spot_written k_spot_written) (fu_cell_at X G a_cell_at l_cell_at c_cell_at k_cell_at) (fu_wrapped X G a_wrapped l_wrapped c_wrapped k_wrapped) (fu_worth_by X G a_worth_by l_worth_by c_worth_by k_worth_by) (fu_wrote_by X G a_wrote_by l_wrote_by c_wrote_by k_wrote_by) (fu_place_behind X G a_place_behind l_place_behind c_place_behind k_place_behind) (fu_put_at X G a_put_at l_put_at c_put_at k_put_at) (fu_step X G a_step l_step c_step k_step) (fu_is_slow X G a_is_slow l_is_slow c_is_slow k_is_slow) (fu_wrote_cause X G a_wrote_cause l_wrote_cause c_wrote_cause k_wrote_cause) (fu_end_cause X G a_end_cause l_end_cause c_end_cause k_end_cause) (fu_late_cause X G a_late_cause l_late_cause c_late_cause k_late_cause) (fu_down_cause X G a_down_cause l_down_cause c_down_cause k_down_cause) (fu_bell_cause X G a_bell_cause l_bell_cause c_bell_cause k_bell_cause) (fu_cause_of X G a_cause_of l_cause_of c_cause_of k_cause_of) (fu_ask_bell X G a_ask_bell l_ask_bell c_ask_bell k_ask_bell) (fu_bell X G a_bell l_bell c_bell k_bell) (fu_taken_up X G a_taken_up l_taken_up c_taken_up k_taken_up) (fu_parting X G a_parting l_parting c_parting k_parting) (fu__law_right X G a__law_right l__law_right c__law_right k__law_right) (fun_mk (st := s_law) l_law c_law k_law) (fu_Holder_tell a_tell i_tell l_tell c_tell k_tell) (fu_Holder_parted a_parted i_parted l_parted c_parted k_parted) fun D => fu_Holder_init B T D mk a_init i_init kc l_init c_init k_init⟩
end TM
open PySem PySem.W PyProof.Rows in
set_option maxRecDepth 100000 in
set_option maxHeartbeats 0 in
theorem PySem.Challenge.cw_twomakes_k27_whole_any_diary_holds : PySem.Challenge.rw_twomakes_k27_whole_any_diary.Holds := by
  w_on; o_law; k_head; (case hw => w_witness2)
  k_fill
  refine TM.walk (l := PySem.Challenge.rw_twomakes_k27_whole_any_diary) rfl rfl (fun w h Y => PySem.W.kIn_of Y) ?F
  case F =>
    intro w mg fa h KX G hmg
    refine' TM.all_mk KX G hmg ?aC ?a__law_bag ?l__law_bag ?c__law_bag ?k__law_bag ?a__law_draw ?l__law_draw ?c__law_draw ?k__law_draw ?a__law_worth ?l__law_worth ?c__law_worth ?k__law_worth ?a__law_row ?l__law_row ?c__law_row ?k__law_row ?a__law_mill ?l__law_mill ?c__law_mill ?k__law_mill ?a__law_state ?l__law_state ?c__law_state ?k__law_state ?a__law_far ?l__law_far ?c__law_far ?k__law_far ?a__law_rings ?l__law_rings ?c__law_rings ?k__law_rings ?a__law_terms ?l__law_terms ?c__law_terms ?k__law_terms ?a__law_begin ?l__law_begin ?c__law_begin ?k__law_begin ?a__law_waits ?l__law_waits ?c__law_waits ?k__law_waits ?a__law_due ?l__law_due ?c__law_due ?k__law_due ?a__law_end_cause ?l__law_end_cause ?c__law_end_cause ?k__law_end_cause ?a__law_cause ?l__law_cause ?c__law_cause ?k__law_cause ?a__law_sure ?l__law_sure ?c__law_sure ?k__law_sure ?a__law_some ?l__law_some ?c__law_some ?k__law_some ?a__law_wild ?l__law_wild ?c__law_wild ?k__law_wild ?a__law_other_number ?l__law_other_number ?c__law_other_number ?k__law_other_number ?a__law_other_wrote ?l__law_other_wrote ?c__law_other_wrote ?k__law_other_wrote ?a__law_spoilt ?l__law_spoilt ?c__law_spoilt ?k__law_spoilt ?a__law_goes ?l__law_goes ?c__law_goes ?k__law_goes ?a__law_take_up ?l__law_take_up ?c__law_take_up ?k__law_take_up ?a__law_tale ?l__law_tale ?c__law_tale ?k__law_tale ?a_first_stand ?l_first_stand ?c_first_stand ?k_first_stand ?a_rests ?l_rests ?c_rests ?k_rests ?a_waiting ?l_waiting ?c_waiting ?k_waiting ?a_is_pressed ?l_is_pressed ?c_is_pressed ?k_is_pressed ?a_spots_read ?l_spots_read ?c_spots_read ?k_spots_read ?a_spot_written ?l_spot_written ?c_spot_written ?k_spot_written ?a_cell_at ?l_cell_at ?c_cell_at ?k_cell_at ?a_wrapped ?l_wrapped ?c_wrapped ?k_wrapped ?a_worth_by ?l_worth_by ?c_worth_by ?k_worth_by ?a_wrote_by ?l_wrote_by ?c_wrote_by ?k_wrote_by ?a_place_behind ?l_place_behind ?c_place_behind ?k_place_behind ?a_put_at ?l_put_at ?c_put_at ?k_put_at ?a_step ?l_step ?c_step ?k_step ?a_is_slow ?l_is_slow ?c_is_slow ?k_is_slow ?a_wrote_cause ?l_wrote_cause ?c_wrote_cause ?k_wrote_cause ?a_end_cause ?l_end_cause ?c_end_cause ?k_end_cause ?a_late_cause ?l_late_cause ?c_late_cause ?k_late_cause ?a_down_cause ?l_down_cause ?c_down_cause ?k_down_cause ?a_bell_cause ?l_bell_cause ?c_bell_cause ?k_bell_cause ?a_cause_of ?l_cause_of ?c_cause_of ?k_cause_of ?a_ask_bell ?l_ask_bell ?c_ask_bell ?k_ask_bell ?a_bell ?l_bell ?c_bell ?k_bell ?a_taken_up ?l_taken_up ?c_taken_up ?k_taken_up ?a_parting ?l_parting ?c_parting ?k_parting ?a__law_right ?l__law_right ?c__law_right ?k__law_right ?a_init ?i_init ?l_init ?c_init ?k_init ?a_tell ?i_tell ?l_tell ?c_tell ?k_tell ?a_parted ?i_parted ?l_parted ?c_parted ?k_parted ?a_law ?l_law ?c_law ?k_law ?pg ?hd ?po ?sa ?mk ?kc ?n_mill ?n_rings ?n_terms ?n_stand ?n_many ?n_cause ?z_len ?z_max ?z_sorted ?z_isinstance ?z_set ?z_int ?z_tuple ?z_list ?z_str ?z_bool ?z_range ?w1 ?w2
    (case aC => k_is)
    (case a__law_bag => k_is)
    (case l__law_bag => k_is)
    (case c__law_bag => k_is)
    (case k__law_bag => k_is)
    (case a__law_draw => k_is)
    (case l__law_draw => k_is)
    (case c__law_draw => k_is)
    (case k__law_draw => k_is)
    (case a__law_worth => k_is)
    (case l__law_worth => k_is)
    (case c__law_worth => k_is)
    (case k__law_worth => k_is)
    (case a__law_row => k_is)
    (case l__law_row => k_is)
    (case c__law_row => k_is)
    (case k__law_row => k_is)
    (case a__law_mill => k_is)
    (case l__law_mill => k_is)
    (case c__law_mill => k_is)
    (case k__law_mill => k_is)
    (case a__law_state => k_is)
    (case l__law_state => k_is)
    (case c__law_state => k_is)
    (case k__law_state => k_is)
    (case a__law_far => k_is)
    (case l__law_far => k_is)
    (case c__law_far => k_is)
    (case k__law_far => k_is)
    (case a__law_rings => k_is)
    (case l__law_rings => k_is)
    (case c__law_rings => k_is)
    (case k__law_rings => k_is)
    (case a__law_terms => k_is)
    (case l__law_terms => k_is)
    (case c__law_terms => k_is)
    (case k__law_terms => k_is)
    (case a__law_begin => k_is)
    (case l__law_begin => k_is)
    (case c__law_begin => k_is)
    (case k__law_begin => k_is)
    (case a__law_waits => k_is)
    (case l__law_waits => k_is)
    (case c__law_waits => k_is)
    (case k__law_waits => k_is)
    (case a__law_due => k_is)
    (case l__law_due => k_is)
    (case c__law_due => k_is)
    (case k__law_due => k_is)
    (case a__law_end_cause => k_is)
    (case l__law_end_cause => k_is)
    (case c__law_end_cause => k_is)
    (case k__law_end_cause => k_is)
    (case a__law_cause => k_is)
    (case l__law_cause => k_is)
    (case c__law_cause => k_is)
    (case k__law_cause => k_is)
    (case a__law_sure => k_is)
    (case l__law_sure => k_is)
    (case c__law_sure => k_is)
    (case k__law_sure => k_is)
    (case a__law_some => k_is)
    (case l__law_some => k_is)
    (case c__law_some => k_is)
    (case k__law_some => k_is)
    (case a__law_wild => k_is)
    (case l__law_wild => k_is)
    (case c__law_wild => k_is)
    (case k__law_wild => k_is)
    (case a__law_other_number => k_is)
    (case l__law_other_number => k_is)
    (case c__law_other_number => k_is)
    (case k__law_other_number => k_is)
    (case a__law_other_wrote => k_is)
    (case l__law_other_wrote => k_is)
    (case c__law_other_wrote => k_is)
    (case k__law_other_wrote => k_is)
    (case a__law_spoilt => k_is)
    (case l__law_spoilt => k_is)
    (case c__law_spoilt => k_is)
    (case k__law_spoilt => k_is)
    (case a__law_goes => k_is)
    (case l__law_goes => k_is)
    (case c__law_goes => k_is)
    (case k__law_goes => k_is)
    (case a__law_take_up => k_is)
    (case l__law_take_up => k_is)
    (case c__law_take_up => k_is)
    (case k__law_take_up => k_is)
    (case a__law_tale => k_is)
    (case l__law_tale => k_is)
    (case c__law_tale => k_is)
    (case k__law_tale => k_is)
    (case a_first_stand => k_is)
    (case l_first_stand => k_is)
    (case c_first_stand => k_is)
    (case k_first_stand => k_is)
    (case a_rests => k_is)
    (case l_rests => k_is)
    (case c_rests => k_is)
    (case k_rests => k_is)
    (case a_waiting => k_is)
    (case l_waiting => k_is)
    (case c_waiting => k_is)
    (case k_waiting => k_is)
    (case a_is_pressed => k_is)
    (case l_is_pressed => k_is)
    (case c_is_pressed => k_is)
    (case k_is_pressed => k_is)
    (case a_spots_read => k_is)
    (case l_spots_read => k_is)
    (case c_spots_read => k_is)
    (case k_spots_read => k_is)
    (case a_spot_written => k_is)
    (case l_spot_written => k_is)
    (case c_spot_written => k_is)
    (case k_spot_written => k_is)
    (case a_cell_at => k_is)
    (case l_cell_at => k_is)
    (case c_cell_at => k_is)
    (case k_cell_at => k_is)
    (case a_wrapped => k_is)
    (case l_wrapped => k_is)
    (case c_wrapped => k_is)
    (case k_wrapped => k_is)
    (case a_worth_by => k_is)
    (case l_worth_by => k_is)
    (case c_worth_by => k_is)
    (case k_worth_by => k_is)
    (case a_wrote_by => k_is)
    (case l_wrote_by => k_is)
    (case c_wrote_by => k_is)
    (case k_wrote_by => k_is)
    (case a_place_behind => k_is)
    (case l_place_behind => k_is)
    (case c_place_behind => k_is)
    (case k_place_behind => k_is)
    (case a_put_at => k_is)
    (case l_put_at => k_is)
    (case c_put_at => k_is)
    (case k_put_at => k_is)
    (case a_step => k_is)
    (case l_step => k_is)
    (case c_step => k_is)
    (case k_step => k_is)
    (case a_is_slow => k_is)
    (case l_is_slow => k_is)
    (case c_is_slow => k_is)
    (case k_is_slow => k_is)
    (case a_wrote_cause => k_is)
    (case l_wrote_cause => k_is)
    (case c_wrote_cause => k_is)
    (case k_wrote_cause => k_is)
    (case a_end_cause => k_is)
    (case l_end_cause => k_is)
    (case c_end_cause => k_is)
    (case k_end_cause => k_is)
    (case a_late_cause => k_is)
    (case l_late_cause => k_is)
    (case c_late_cause => k_is)
    (case k_late_cause => k_is)
    (case a_down_cause => k_is)
    (case l_down_cause => k_is)
    (case c_down_cause => k_is)
    (case k_down_cause => k_is)
    (case a_bell_cause => k_is)
    (case l_bell_cause => k_is)
    (case c_bell_cause => k_is)
    (case k_bell_cause => k_is)
    (case a_cause_of => k_is)
    (case l_cause_of => k_is)
    (case c_cause_of => k_is)
    (case k_cause_of => k_is)
    (case a_ask_bell => k_is)
    (case l_ask_bell => k_is)
    (case c_ask_bell => k_is)
    (case k_ask_bell => k_is)
    (case a_bell => k_is)
    (case l_bell => k_is)
    (case c_bell => k_is)
    (case k_bell => k_is)
    (case a_taken_up => k_is)
    (case l_taken_up => k_is)
    (case c_taken_up => k_is)
    (case k_taken_up => k_is)
    (case a_parting => k_is)
    (case l_parting => k_is)
    (case c_parting => k_is)
    (case k_parting => k_is)
    (case a__law_right => k_is)
    (case l__law_right => k_is)
    (case c__law_right => k_is)
    (case k__law_right => k_is)
    (case a_init => k_is)
    (case i_init => k_is)
    (case l_init => k_is)
    (case c_init => k_is)
    (case k_init => k_is)
    (case a_tell => k_is)
    (case i_tell => k_is)
    (case l_tell => k_is)
    (case c_tell => k_is)
    (case k_tell => k_is)
    (case a_parted => k_is)
    (case i_parted => k_is)
    (case l_parted => k_is)
    (case c_parted => k_is)
    (case k_parted => k_is)
    (case a_law => k_is)
    (case l_law => k_is)
    (case c_law => k_is)
    (case k_law => k_is)
    (case pg => k_is)
    (case hd => k_is)
    (case po => k_is)
    (case sa => k_is)
    (case mk => k_is)
    (case kc => k_is)
    (case n_mill => k_is)
    (case n_rings => k_is)
    (case n_terms => k_is)
    (case n_stand => k_is)
    (case n_many => k_is)
    (case n_cause => k_is)
    (case z_len => k_is)
    (case z_max => k_is)
    (case z_sorted => k_is)
    (case z_isinstance => k_is)
    (case z_set => k_is)
    (case z_int => k_is)
    (case z_tuple => k_is)
    (case z_list => k_is)
    (case z_str => k_is)
    (case z_bool => k_is)
    (case z_range => k_is)
    (case w1 => k_is)
    (case w2 => k_is)
