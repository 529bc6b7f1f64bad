import PyProof.Rows.All
import Wide.All
import OpenK.AllK
import Wide.FinOn
import HandS.ForMost
import HandS.Exc
import HandS.ExcOwn
import HandS.CallSlots
import HandS.WordsExc
import HandS.Walk
import HandS.Flow
import HandS.Property
import HandS.Star
import HandS.Defaults
import HandS.Ends
import HandS.IsInst
import HandS.Wide
import HandS.WideBits
import HandS.Text
import HandS.TupLen
import HandS.TupAny
import HandS.Deep
import HandS.Zip
import KE.GoesNew
import KE.GoesMore
import HandS.DictComp
import HandS.Dict
import HandS.ClsMeth
import HandS.OwnEq
import HandS.New0
import KE.KOpsOwn
import OpenK.KOps
import OpenK.KMeth
import KE.RegKCallOwn
import PyProof.InstEq
import HandS.Style
import HandS.TryOnly
import HandS.SortOrd
import HandS.SortInts
import HandS.SortRule
import HandS.Conv
import PyProof.Rows.SortShellAny
import KE.KDictSum
import HandS.Set
import HandS.SetFor
import HandS.MapObj
import PyProof.ReprRoads
import PySem.Challenge.RW_outsigns_k19_paths_rings_and_full_nets
/-! text PF1 -/
set_option Elab.async false
set_option linter.all false
set_option maxRecDepth 100000
/-! PF1: pure values, mutable objects, what stands for what, one step of the abstract heap. -/
namespace PF
open PySem L2

/-- a pure value: data without identity, frozen -/
inductive P where
  | non | bl (b : Bool) | int (i : Int) | str (x : Str)
  | tup (xs : List P) | ktup (xs : List P) | lst (xs : List P) | klst (xs : List P) | dic (t : Bool) (kvs : List (P × P))
  | obj (C : Addr) (fs : List (Str × P))
  | rf (a : Addr) | ty (n : String)
/-- a value in a slot: pure, or a mutable object by its number -/
inductive D where
  | p (x : P) | ref (i : Nat)
/-- a mutable object -/
inductive AO where
  | lst (xs : List P) | dic (t : Bool) (kvs : List (P × P)) | ins (C : Addr) (fs : List (Str × P))
/-- the mutable objects by number; none: gone or frozen -/
abbrev AH := List (Option AO)
structure Exc where
  C : Addr
  fs : List (Str × P)

def keyOf : P → Option Key
  | .int i => some (.inl i)
  | .str x => some (.inr x)
  | _ => none
def keysOf : List P → Option (List Key)
  | [] => some []
  | x :: r => match keyOf x, keysOf r with
    | some k, some ks => some (k :: ks)
    | _, _ => none
def tkeyOf : P → Option (List Key)
  | .tup xs => keysOf xs
  | _ => none

/-- a list from outside (the law's script) -/
def SqN (K : PySem.W.Frag) (L : Addr → Prop) (H : Hp) (a : Addr) (xs : List V) : Prop :=
  (¬ L a ∧ Rd H a (.lst xs)) ∨ ∃ (o : PySem.Obj) (its : Array Value) (n : Nat), K.lookup a = some o ∧ o.cls = .type "list" ∧ o.dict = none ∧ o.data = .seq its n ∧ its.size ≤ sizeLine ∧ Vals xs its.toList
theorem SqN.sq {K : PySem.W.Frag} {L : Addr → Prop} {H : Hp} {a : Addr} {xs : List V} (h : SqN K L H a xs) : SqL K H a xs := h.imp (fun h => h.2) fun h => h
section
variable (K : PySem.W.Frag) (L : Addr → Prop) (H : Hp)
mutual
def RelP : P → V → Prop
  | .non, v => v = .non
  | .bl b, v => v = .bl b
  | .int i, v => v = .int i
  | .str x, v => v = .str x
  | .tup xs, v => ∃ a vs, v = .ref a ∧ H a = some (.tup vs) ∧ RelPs xs vs
  | .ktup xs, v => ∃ a vs, v = .ref a ∧ SqT K H a vs ∧ RelPs xs vs
  | .lst xs, v => ∃ a vs, v = .ref a ∧ ¬ L a ∧ H a = some (.lst vs) ∧ RelPs xs vs
  | .klst xs, v => ∃ a vs, v = .ref a ∧ SqN K L H a vs ∧ RelPs xs vs
  | .dic t kvs, v => ∃ a, v = .ref a ∧ ¬ L a ∧ ((t = false ∧ ∃ l, Rd H a (.dK l) ∧ RelKV kvs l) ∨ (t = true ∧ ∃ l, Rd H a (.dT l) ∧ RelTV kvs l))
  | .obj C fs, v => ∃ a dx vs, v = .ref a ∧ ¬ L a ∧ H a = some (.ins C dx vs) ∧ RelFs fs vs
  | .rf a, v => v = .ref a
  | .ty n, v => v = .ty n
def RelPs : List P → List V → Prop
  | [], vs => vs = []
  | x :: r, vs => ∃ v w, vs = v :: w ∧ RelP x v ∧ RelPs r w
def RelKV : List (P × P) → List (Key × V) → Prop
  | [], l => l = []
  | (k, x) :: r, l => ∃ q v w, l = (q, v) :: w ∧ keyOf k = some q ∧ RelP x v ∧ RelKV r w
def RelTV : List (P × P) → List (List Key × V) → Prop
  | [], l => l = []
  | (k, x) :: r, l => ∃ q v w, l = (q, v) :: w ∧ tkeyOf k = some q ∧ RelP x v ∧ RelTV r w
def RelFs : List (Str × P) → List (Str × V) → Prop
  | [], l => l = []
  | (f, x) :: r, l => ∃ v w, l = (f, v) :: w ∧ RelP x v ∧ RelFs r w
end
end

def RelAO (K : PySem.W.Frag) (L : Addr → Prop) (H : Hp) : AO → Option HO → Prop
  | .lst xs, ho => ∃ vs, ho = some (.lst vs) ∧ RelPs K L H xs vs
  | .dic t kvs, ho => (t = false ∧ ∃ l, ho = some (.dK l) ∧ RelKV K L H kvs l) ∨ (t = true ∧ ∃ l, ho = some (.dT l) ∧ RelTV K L H kvs l)
  | .ins C fs, ho => ∃ dx vs, ho = some (.ins C dx vs) ∧ RelFs K L H fs vs
/-- the addresses of the mutable objects that live -/
def Lv (ρ : List Addr) (A : AH) (a : Addr) : Prop := ∃ (i : Nat) (o : AO), ρ[i]? = some a ∧ A[i]? = some (some o)
structure Rep (K : PySem.W.Frag) (ρ : List Addr) (A : AH) (H : Hp) : Prop where
  len : ρ.length = A.length
  obj : ∀ (i : Nat) (a : Addr) (o : AO), ρ[i]? = some a → A[i]? = some (some o) → RelAO K (Lv ρ A) H o (H a)
  inj : ∀ (i j : Nat) (a : Addr) (o u : AO), ρ[i]? = some a → ρ[j]? = some a → A[i]? = some (some o) → A[j]? = some (some u) → i = j
def RelD (K : PySem.W.Frag) (ρ : List Addr) (A : AH) (H : Hp) : D → V → Prop
  | .p x, v => RelP K (Lv ρ A) H x v
  | .ref i, v => ∃ a, ρ[i]? = some a ∧ v = .ref a
def RelDs (K : PySem.W.Frag) (ρ : List Addr) (A : AH) (H : Hp) : List D → List V → Prop
  | [], vs => vs = []
  | x :: r, vs => ∃ v w, vs = v :: w ∧ RelD K ρ A H x v ∧ RelDs K ρ A H r w
abbrev EnvD := List (Option D)
def RelEnv (K : PySem.W.Frag) (ρ : List Addr) (A : AH) (H : Hp) (σD : EnvD) (σ : St) : Prop :=
  σD.length = σ.length ∧ ∀ (i : Nat) (d : D), σD[i]? = some (some d) → ∃ v, σ[i]? = some (some v) ∧ RelD K ρ A H d v
/-- a dict may be locked at any time -/
def Lk : HO → Prop
  | .dK _ => True
  | .dT _ => True
  | _ => False
/-- what does not live stays, but that dicts may be locked -/
def Kp (L : Addr → Prop) (H H' : Hp) : Prop := ∀ a o, H a = some o → ¬ L a → H' a = some o ∨ (Lk o ∧ ∃ od, H' a = some (.frz od o))
theorem Kp.of {L : Addr → Prop} {H H' : Hp} (k : ∀ a o, H a = some o → ¬ L a → H' a = some o) : Kp L H H' := fun a o e n => .inl (k a o e n)
theorem Kp.at {L : Addr → Prop} {H H' : Hp} (k : Kp L H H') {a : Addr} {o : HO} (h : ¬ Lk o) (e : H a = some o) (n : ¬ L a) : H' a = some o := (k a o e n).elim id fun z => absurd z.1 h
structure Step (K : PySem.W.Frag) (ρ : List Addr) (A : AH) (H : Hp) (ρ' : List Addr) (A' : AH) (H' : Hp) : Prop where
  rep : Rep K ρ' A' H'
  pre : ∀ (i : Nat) (a : Addr), ρ[i]? = some a → ρ'[i]? = some a
  keep : Kp (Lv ρ A) H H'
  noL : ∀ a o, H a = some o → ¬ Lv ρ A a → ¬ Lv ρ' A' a
def RelX (K : PySem.W.Frag) (ρ : List Addr) (A : AH) (H : Hp) (x : Exc) (c : Value) (dx : Option Addr) : Prop :=
  c = .ref x.C ∧ ((x.fs = [] ∧ dx = none) ∨ ∃ d vs, dx = some d ∧ H d = some (.xd vs) ∧ RelFs K (Lv ρ A) H x.fs vs)

section
variable {K : PySem.W.Frag} {L L' : Addr → Prop} {H H' : Hp}
theorem rdKeep {a : Addr} {u : HO} (k : Kp L H H') (h : Rd H a u) (n : ¬ L a) : Rd H' a u := by
  rcases h with h | ⟨o, h⟩
  · exact (k _ _ h n).imp id fun z => z.2
  · exact .inr ⟨o, k.at id h n⟩
theorem rdSome {a : Addr} {u : HO} (h : Rd H a u) : ∃ o, H a = Option.some o := by
  rcases h with h | ⟨o, h⟩
  · exact ⟨_, h⟩
  · exact ⟨_, h⟩
/-- a tuple's address does not live -/
def TupNoL (L : Addr → Prop) (H : Hp) : Prop := ∀ a, L a → ∀ xs, ¬ (H a = some (.tup xs) ∨ ∃ o, H a = some (.frz o (.tup xs)))
theorem sqtKeep {a : Addr} {xs : List V} (k : Kp L H H') (t : TupNoL L H) (h : SqT K H a xs) : SqT K H' a xs := by
  rcases h with h | h
  · left
    have n : ¬ L a := fun z => t a z xs h
    exact rdKeep k h n
  · exact .inr h
variable (k : Kp L H H') (n : ∀ a o, H a = some o → ¬ L a → ¬ L' a) (t : TupNoL L H)
include k n t
mutual
theorem RelP.keep : ∀ (x : P) (v : V), RelP K L H x v → RelP K L' H' x v
  | .non, v, h => by simpa only [RelP] using h
  | .bl b, v, h => by simpa only [RelP] using h
  | .int i, v, h => by simpa only [RelP] using h
  | .str x, v, h => by simpa only [RelP] using h
  | .tup xs, v, h => by
    simp only [RelP] at h ⊢
    obtain ⟨a, vs, e, s, r⟩ := h
    exact ⟨a, vs, e, k.at id s (fun z => t a z vs (.inl s)), RelPs.keep xs vs r⟩
  | .ktup xs, v, h => by
    simp only [RelP] at h ⊢
    obtain ⟨a, vs, e, s, r⟩ := h
    exact ⟨a, vs, e, sqtKeep k t s, RelPs.keep xs vs r⟩
  | .lst xs, v, h => by
    simp only [RelP] at h ⊢
    obtain ⟨a, vs, e, na, s, r⟩ := h
    exact ⟨a, vs, e, n a _ s na, k.at id s na, RelPs.keep xs vs r⟩
  | .klst xs, v, h => by
    simp only [RelP] at h ⊢
    obtain ⟨a, vs, e, s, r⟩ := h
    refine ⟨a, vs, e, s.imp (fun ⟨na, s⟩ => ?_) (fun h => h), RelPs.keep xs vs r⟩
    obtain ⟨o, ho⟩ := rdSome s
    exact ⟨n a o ho na, rdKeep k s na⟩
  | .dic tg kvs, v, h => by
    simp only [RelP] at h ⊢
    obtain ⟨a, e, na, s⟩ := h
    rcases s with ⟨z, l, s, r⟩ | ⟨z, l, s, r⟩
    · obtain ⟨o, ho⟩ := rdSome s
      exact ⟨a, e, n a o ho na, .inl ⟨z, l, rdKeep k s na, RelKV.keep kvs l r⟩⟩
    · obtain ⟨o, ho⟩ := rdSome s
      exact ⟨a, e, n a o ho na, .inr ⟨z, l, rdKeep k s na, RelTV.keep kvs l r⟩⟩
  | .obj C fs, v, h => by
    simp only [RelP] at h ⊢
    obtain ⟨a, dx, vs, e, na, s, r⟩ := h
    exact ⟨a, dx, vs, e, n a _ s na, k.at id s na, RelFs.keep fs vs r⟩
  | .rf a, v, h => by simpa only [RelP] using h
  | .ty m, v, h => by simpa only [RelP] using h
theorem RelPs.keep : ∀ (xs : List P) (vs : List V), RelPs K L H xs vs → RelPs K L' H' xs vs
  | [], vs, h => by simpa only [RelPs] using h
  | x :: r, vs, h => by
    simp only [RelPs] at h ⊢
    obtain ⟨v, w, e, a, b⟩ := h
    exact ⟨v, w, e, RelP.keep x v a, RelPs.keep r w b⟩
theorem RelKV.keep : ∀ (xs : List (P × P)) (l : List (Key × V)), RelKV K L H xs l → RelKV K L' H' xs l
  | [], l, h => by simpa only [RelKV] using h
  | (q, x) :: r, l, h => by
    simp only [RelKV] at h ⊢
    obtain ⟨q', v, w, e, e', a, b⟩ := h
    exact ⟨q', v, w, e, e', RelP.keep x v a, RelKV.keep r w b⟩
theorem RelTV.keep : ∀ (xs : List (P × P)) (l : List (List Key × V)), RelTV K L H xs l → RelTV K L' H' xs l
  | [], l, h => by simpa only [RelTV] using h
  | (q, x) :: r, l, h => by
    simp only [RelTV] at h ⊢
    obtain ⟨q', v, w, e, e', a, b⟩ := h
    exact ⟨q', v, w, e, e', RelP.keep x v a, RelTV.keep r w b⟩
theorem RelFs.keep : ∀ (xs : List (Str × P)) (l : List (Str × V)), RelFs K L H xs l → RelFs K L' H' xs l
  | [], l, h => by simpa only [RelFs] using h
  | (f, x) :: r, l, h => by
    simp only [RelFs] at h ⊢
    obtain ⟨v, w, e, a, b⟩ := h
    exact ⟨v, w, e, RelP.keep x v a, RelFs.keep r w b⟩
end
end

section
variable {K : PySem.W.Frag} {ρ ρ' ρ'' : List Addr} {A A' A'' : AH} {H H' H'' : Hp}
theorem Rep.liveSome (r : Rep K ρ A H) {a : Addr} (h : Lv ρ A a) : (∃ vs, H a = some (.lst vs)) ∨ (∃ l, H a = some (.dK l)) ∨ (∃ l, H a = some (.dT l)) ∨ (∃ C dx vs, H a = some (.ins C dx vs)) := by
  obtain ⟨i, o, h1, h2⟩ := h
  have q := r.obj i a o h1 h2
  cases o with
  | lst xs => obtain ⟨vs, e, _⟩ := q; exact .inl ⟨_, e⟩
  | dic _ kvs =>
    rcases q with ⟨_, l, e, _⟩ | ⟨_, l, e, _⟩
    · exact .inr (.inl ⟨_, e⟩)
    · exact .inr (.inr (.inl ⟨_, e⟩))
  | ins C fs => obtain ⟨dx, vs, e, _⟩ := q; exact .inr (.inr (.inr ⟨_, _, _, e⟩))
theorem Rep.tup (r : Rep K ρ A H) : TupNoL (Lv ρ A) H := fun a h xs q => by
  rcases r.liveSome h with ⟨_, e⟩ | ⟨_, e⟩ | ⟨_, e⟩ | ⟨_, _, _, e⟩ <;> rcases q with q | ⟨_, q⟩ <;> rw [e] at q <;> cases q
theorem Rep.notNone (r : Rep K ρ A H) {a : Addr} (h : H a = none) : ¬ Lv ρ A a := fun z => by
  rcases r.liveSome z with ⟨_, e⟩ | ⟨_, e⟩ | ⟨_, e⟩ | ⟨_, _, _, e⟩ <;> rw [e] at h <;> cases h
theorem Step.refl (r : Rep K ρ A H) : Step K ρ A H ρ A H := ⟨r, fun _ _ h => h, fun _ _ h _ => .inl h, fun _ _ _ h => h⟩
theorem Step.trans (a : Step K ρ A H ρ' A' H') (b : Step K ρ' A' H' ρ'' A'' H'') : Step K ρ A H ρ'' A'' H'' :=
  ⟨b.rep, fun i x h => b.pre i x (a.pre i x h), fun x o h n => match a.keep x o h n with
    | .inl e => b.keep x o e (a.noL x o h n)
    | .inr ⟨l, od, e⟩ => .inr ⟨l, od, b.keep.at id e (a.noL x o h n)⟩, fun x o h n => match a.keep x o h n with
    | .inl e => b.noL x o e (a.noL x o h n)
    | .inr ⟨_, _, e⟩ => b.noL x _ e (a.noL x o h n)⟩
theorem RelP.step {x : P} {v : V} (r : Rep K ρ A H) (s : Step K ρ A H ρ' A' H') (h : RelP K (Lv ρ A) H x v) : RelP K (Lv ρ' A') H' x v := RelP.keep s.keep s.noL r.tup x v h
theorem RelPs.step {x : List P} {v : List V} (r : Rep K ρ A H) (s : Step K ρ A H ρ' A' H') (h : RelPs K (Lv ρ A) H x v) : RelPs K (Lv ρ' A') H' x v := RelPs.keep s.keep s.noL r.tup x v h
theorem RelFs.step {x : List (Str × P)} {v : List (Str × V)} (r : Rep K ρ A H) (s : Step K ρ A H ρ' A' H') (h : RelFs K (Lv ρ A) H x v) : RelFs K (Lv ρ' A') H' x v := RelFs.keep s.keep s.noL r.tup x v h
theorem RelKV.step {x : List (P × P)} {v : List (Key × V)} (r : Rep K ρ A H) (s : Step K ρ A H ρ' A' H') (h : RelKV K (Lv ρ A) H x v) : RelKV K (Lv ρ' A') H' x v := RelKV.keep s.keep s.noL r.tup x v h
theorem RelTV.step {x : List (P × P)} {v : List (List Key × V)} (r : Rep K ρ A H) (s : Step K ρ A H ρ' A' H') (h : RelTV K (Lv ρ A) H x v) : RelTV K (Lv ρ' A') H' x v := RelTV.keep s.keep s.noL r.tup x v h
theorem RelD.step {x : D} {v : V} (r : Rep K ρ A H) (s : Step K ρ A H ρ' A' H') (h : RelD K ρ A H x v) : RelD K ρ' A' H' x v := by
  cases x with
  | p x => exact RelP.step r s h
  | ref i => obtain ⟨a, e, q⟩ := h; exact ⟨a, s.pre _ _ e, q⟩
theorem RelDs.step (r : Rep K ρ A H) (s : Step K ρ A H ρ' A' H') : ∀ {x : List D} {v : List V}, RelDs K ρ A H x v → RelDs K ρ' A' H' x v
  | [], _, h => h
  | _ :: _, _, ⟨v, w, e, a, b⟩ => ⟨v, w, e, a.step r s, RelDs.step r s b⟩
theorem RelEnv.step {σD : EnvD} {σ : St} (r : Rep K ρ A H) (s : Step K ρ A H ρ' A' H') (h : RelEnv K ρ A H σD σ) : RelEnv K ρ' A' H' σD σ :=
  ⟨h.1, fun i d e => let ⟨v, a, b⟩ := h.2 i d e; ⟨v, a, b.step r s⟩⟩
theorem RelAO.keep {L L' : Addr → Prop} {o : AO} {ho : Option HO} (k : Kp L H H') (n : ∀ a o, H a = some o → ¬ L a → ¬ L' a) (t : TupNoL L H) (h : RelAO K L H o ho) : RelAO K L' H' o ho := by
  cases o with
  | lst xs => obtain ⟨vs, e, q⟩ := h; exact ⟨vs, e, RelPs.keep k n t _ _ q⟩
  | dic _ kvs =>
    rcases h with ⟨z, l, e, q⟩ | ⟨z, l, e, q⟩
    · exact .inl ⟨z, l, e, RelKV.keep k n t _ _ q⟩
    · exact .inr ⟨z, l, e, RelTV.keep k n t _ _ q⟩
  | ins C fs => obtain ⟨dx, vs, e, q⟩ := h; exact ⟨dx, vs, e, RelFs.keep k n t _ _ q⟩

/-- a new object that is frozen from the start -/
theorem Step.laid (r : Rep K ρ A H) {p : Addr} (o : HO) (hp : H p = none) : Step K ρ A H ρ A (upd H p o) := by
  have k : ∀ a u, H a = some u → ¬ Lv ρ A a → upd H p o a = some u := fun a u e _ => by rw [upd_ne (ne_of_none e hp)]; exact e
  refine ⟨⟨r.len, fun i a u h1 h2 => ?_, r.inj⟩, fun _ _ h => h, Kp.of k, fun _ _ _ h => h⟩
  have e := r.obj i a u h1 h2
  have hne : a ≠ p := fun z => r.notNone (a := p) hp ⟨i, u, by rw [← z]; exact h1, h2⟩
  rw [upd_ne hne]
  exact RelAO.keep (Kp.of k) (fun _ _ _ h => h) r.tup e
theorem Step.laid_notL (r : Rep K ρ A H) {p : Addr} (hp : H p = none) : ¬ Lv ρ A p := r.notNone hp
theorem getElem?_snoc_lt {α : Type} {l : List α} {x y : α} {i : Nat} (h : l[i]? = some y) : (l ++ [x])[i]? = some y := by
  have := (List.getElem?_eq_some_iff.mp h).1
  rw [List.getElem?_append_left this]; exact h
theorem getElem?_snoc {α : Type} {l : List α} {x y : α} {i : Nat} (h : (l ++ [x])[i]? = some y) : l[i]? = some y ∨ (i = l.length ∧ y = x) := by
  by_cases hi : i < l.length
  · rw [List.getElem?_append_left hi] at h; exact .inl h
  · rw [List.getElem?_append_right (by omega)] at h
    have : i - l.length = 0 := by
      cases hn : i - l.length with
      | zero => rfl
      | succ n => rw [hn] at h; simp at h
    rw [this] at h
    exact .inr ⟨by omega, (by simpa using h.symm)⟩
/-- a new mutable object -/
theorem Step.mut (r : Rep K ρ A H) {p : Addr} {o : AO} {ho : HO} (hp : H p = none) (hr : RelAO K (Lv ρ A) H o (some ho)) : Step K ρ A H (ρ ++ [p]) (A ++ [some o]) (upd H p ho) := by
  have k : ∀ a u, H a = some u → ¬ Lv ρ A a → upd H p ho a = some u := fun a u e _ => by rw [upd_ne (ne_of_none e hp)]; exact e
  have len := r.len
  have lv : ∀ a, Lv (ρ ++ [p]) (A ++ [some o]) a → Lv ρ A a ∨ a = p := fun a ⟨i, u, h1, h2⟩ => by
    rcases getElem?_snoc h1 with h1 | ⟨e1, e2⟩
    · rcases getElem?_snoc h2 with h2 | ⟨e1, e2⟩
      · exact .inl ⟨i, u, h1, h2⟩
      · have := (List.getElem?_eq_some_iff.mp h1).1; omega
    · exact .inr e2
  have n : ∀ a u, H a = some u → ¬ Lv ρ A a → ¬ Lv (ρ ++ [p]) (A ++ [some o]) a := fun a u e na z => by
    rcases lv a z with z | z
    · exact na z
    · rw [z, hp] at e; cases e
  refine ⟨⟨by simp [len], fun i a u h1 h2 => ?_, fun i j a u w h1 h2 h3 h4 => ?_⟩, fun i a h => getElem?_snoc_lt h, Kp.of k, n⟩
  · rcases getElem?_snoc h1 with h1 | ⟨e1, e2⟩
    · rcases getElem?_snoc h2 with h2 | ⟨e1, e2⟩
      · have e := r.obj i a u h1 h2
        have hne : a ≠ p := fun z => r.notNone (a := p) hp ⟨i, u, by rw [← z]; exact h1, h2⟩
        rw [upd_ne hne]
        exact RelAO.keep (Kp.of k) n r.tup e
      · have := (List.getElem?_eq_some_iff.mp h1).1; omega
    · subst e2
      rcases getElem?_snoc h2 with h2 | ⟨e1', e2⟩
      · have := (List.getElem?_eq_some_iff.mp h2).1; omega
      · cases e2
        rw [upd_same]
        exact RelAO.keep (Kp.of k) n r.tup hr
  · have np := r.notNone hp
    have hi : ∀ {i : Nat} {b : Addr} {w : AO}, (ρ ++ [p])[i]? = some b → (A ++ [some o])[i]? = some (some w) → (ρ[i]? = some b ∧ A[i]? = some (some w) ∧ b ≠ p) ∨ (i = ρ.length ∧ b = p) := fun {i b w} g1 g2 => by
      rcases getElem?_snoc g1 with g3 | ⟨e1, e2⟩
      · rcases getElem?_snoc g2 with g4 | ⟨e1, e2⟩
        · exact .inl ⟨g3, g4, fun z => np ⟨i, w, by rw [← z]; exact g3, g4⟩⟩
        · have := (List.getElem?_eq_some_iff.mp g3).1; omega
      · exact .inr ⟨e1, e2⟩
    rcases hi h1 h3 with ⟨a1, a2, a3⟩ | ⟨a1, a2⟩
    · rcases hi h2 h4 with ⟨b1, b2, b3⟩ | ⟨b1, b2⟩
      · exact r.inj i j a u w a1 b1 a2 b2
      · exact absurd b2 a3
    · rcases hi h2 h4 with ⟨b1, b2, b3⟩ | ⟨b1, b2⟩
      · exact absurd a2 b3
      · rw [a1, b1]
/-- a mutable object is changed -/
theorem Step.write (r : Rep K ρ A H) {i : Nat} {p : Addr} {o u : AO} {ho : HO} (hi : ρ[i]? = some p) (ha : A[i]? = some (some o)) (hr : RelAO K (Lv ρ A) H u (some ho)) : Step K ρ A H ρ (A.set i (some u)) (upd H p ho) := by
  have lp : Lv ρ A p := ⟨i, o, hi, ha⟩
  have hlt := (List.getElem?_eq_some_iff.mp ha).1
  have lv : ∀ a, Lv ρ (A.set i (some u)) a → Lv ρ A a := fun a ⟨j, w, h1, h2⟩ => by
    by_cases e : j = i
    · subst e; rw [hi] at h1; cases h1; exact lp
    · rw [List.getElem?_set_ne (Ne.symm e)] at h2; exact ⟨j, w, h1, h2⟩
  have k : ∀ a w, H a = some w → ¬ Lv ρ A a → upd H p ho a = some w := fun a w e na => by
    rw [upd_ne (fun z => na (by rw [z]; exact lp))]; exact e
  have n : ∀ a w, H a = some w → ¬ Lv ρ A a → ¬ Lv ρ (A.set i (some u)) a := fun a w _ na z => na (lv a z)
  refine ⟨⟨by simp [r.len], fun j a w h1 h2 => ?_, fun j l a w x h1 h2 h3 h4 => ?_⟩, fun _ _ h => h, Kp.of k, n⟩
  · by_cases e : j = i
    · subst e
      rw [hi] at h1; cases h1
      rw [List.getElem?_set_self hlt] at h2; cases h2
      rw [upd_same]
      exact RelAO.keep (Kp.of k) n r.tup hr
    · rw [List.getElem?_set_ne (Ne.symm e)] at h2
      have hne : a ≠ p := fun z => e (r.inj j i p w o (by rw [← z]; exact h1) hi h2 ha)
      rw [upd_ne hne]
      exact RelAO.keep (Kp.of k) n r.tup (r.obj j a w h1 h2)
  · have back : ∀ {j : Nat} {w : AO}, (A.set i (some u))[j]? = some (some w) → ∃ w', A[j]? = some (some w') := fun {j w} h => by
      by_cases e : j = i
      · subst e; exact ⟨_, ha⟩
      · rw [List.getElem?_set_ne (Ne.symm e)] at h; exact ⟨_, h⟩
    obtain ⟨w', h3⟩ := back h3
    obtain ⟨x', h4⟩ := back h4
    exact r.inj j l a w' x' h1 h2 h3 h4
/-- a mutable object is frozen (or let go) -/
theorem Step.die (r : Rep K ρ A H) (i : Nat) : Step K ρ A H ρ (A.set i none) H := by
  have back : ∀ {j : Nat} {w : AO}, (A.set i none)[j]? = some (some w) → A[j]? = some (some w) := fun {j w} h => by
    by_cases e : j = i
    · subst e
      by_cases hl : j < A.length
      · rw [List.getElem?_set_self hl] at h; cases h
      · rw [List.getElem?_eq_none (by simpa using hl)] at h; cases h
    · rw [List.getElem?_set_ne (Ne.symm e)] at h; exact h
  have lv : ∀ a, Lv ρ (A.set i none) a → Lv ρ A a := fun a ⟨j, w, h1, h2⟩ => ⟨j, w, h1, back h2⟩
  have n : ∀ a w, H a = some w → ¬ Lv ρ A a → ¬ Lv ρ (A.set i none) a := fun a w _ na z => na (lv a z)
  exact ⟨⟨by simp [r.len], fun j a w h1 h2 => RelAO.keep (fun _ _ h _ => .inl h) n r.tup (r.obj j a w h1 (back h2)), fun j l a w x h1 h2 h3 h4 => r.inj j l a w x h1 h2 (back h3) (back h4)⟩, fun _ _ h => h, fun _ _ h _ => .inl h, n⟩
theorem Step.die_notL (r : Rep K ρ A H) {i : Nat} {p : Addr} {o : AO} (hi : ρ[i]? = some p) (ha : A[i]? = some (some o)) : ¬ Lv ρ (A.set i none) p := fun ⟨j, w, h1, h2⟩ => by
  have hlt := (List.getElem?_eq_some_iff.mp ha).1
  by_cases e : j = i
  · subst e; rw [List.getElem?_set_self hlt] at h2; cases h2
  · rw [List.getElem?_set_ne (Ne.symm e)] at h2
    exact e (r.inj j i p w o h1 hi h2 ha)
/-- the youngest objects are forgotten -/
theorem Rep.trunc (r : Rep K ρ A H) (n : Nat) : Rep K (ρ.take n) (A.take n) H ∧ ∀ a, Lv (ρ.take n) (A.take n) a → Lv ρ A a := by
  have tk : ∀ {α : Type} {l : List α} {i : Nat} {x : α}, (l.take n)[i]? = some x → l[i]? = some x := fun {α l i x} h => by
    rw [List.getElem?_take] at h; split at h
    · exact h
    · cases h
  have lv : ∀ a, Lv (ρ.take n) (A.take n) a → Lv ρ A a := fun a ⟨i, o, h1, h2⟩ => ⟨i, o, tk h1, tk h2⟩
  exact ⟨⟨by simp [r.len], fun i a o h1 h2 => RelAO.keep (fun _ _ h _ => .inl h) (fun a _ _ na z => na (lv a z)) r.tup (r.obj i a o (tk h1) (tk h2)), fun i j a o u h1 h2 h3 h4 => r.inj i j a o u (tk h1) (tk h2) (tk h3) (tk h4)⟩, lv⟩
theorem Step.trunc (s : Step K ρ A H ρ' A' H') (n : Nat) (hn : ρ.length ≤ n) : Step K ρ A H (ρ'.take n) (A'.take n) H' := by
  obtain ⟨rp, lv⟩ := s.rep.trunc n
  refine ⟨rp, fun i a h => ?_, s.keep, fun a o e na z => s.noL a o e na (lv a z)⟩
  have := (List.getElem?_eq_some_iff.mp h).1
  rw [List.getElem?_take_of_lt (by omega)]
  exact s.pre i a h
theorem RelP.trunc {x : P} {v : V} (r : Rep K ρ A H) (n : Nat) (h : RelP K (Lv ρ A) H x v) : RelP K (Lv (ρ.take n) (A.take n)) H x v :=
  RelP.keep (fun _ _ h _ => .inl h) (fun a _ _ na z => na ((r.trunc n).2 a z)) r.tup x v h
theorem RelFs.trunc {x : List (Str × P)} {v : List (Str × V)} (r : Rep K ρ A H) (n : Nat) (h : RelFs K (Lv ρ A) H x v) : RelFs K (Lv (ρ.take n) (A.take n)) H x v :=
  RelFs.keep (fun _ _ h _ => .inl h) (fun a _ _ na z => na ((r.trunc n).2 a z)) r.tup x v h
end
end PF

/-! text PF2 -/
set_option Elab.async false
set_option linter.all false
set_option maxRecDepth 100000
/-! PF2: what a piece of the text computes, as a function of slots and mutable objects; the readings of such functions. -/
namespace PF
open PySem L2

inductive Res (α : Type) where
  | val (a : α) (A : AH)
  | exc (x : Exc) (A : AH)
/-- a computation: none is stuck (nothing is promised) -/
abbrev M (α : Type) := AH → Option (Res α)
namespace M
variable {α β : Type}
def ret (a : α) : M α := fun A => some (.val a A)
def bind (f : M α) (g : α → M β) : M β := fun A => match f A with
  | none => none
  | some (.exc x A') => some (.exc x A')
  | some (.val a A') => g a A'
def stuck : M α := fun _ => none
def raise (x : Exc) : M α := fun A => some (.exc x A)
def get : M AH := fun A => some (.val A A)
def put (A : AH) : M Unit := fun _ => some (.val () A)
def need (c : Prop) [Decidable c] (f : M α) : M α := if c then f else stuck
theorem bind_val {f : M α} {g : α → M β} {A A' : AH} {a : α} (h : f A = some (.val a A')) : bind f g A = g a A' := by unfold bind; rw [h]
theorem bind_exc {f : M α} {g : α → M β} {A A' : AH} {x : Exc} (h : f A = some (.exc x A')) : bind f g A = some (.exc x A') := by unfold bind; rw [h]
theorem bind_none {f : M α} {g : α → M β} {A : AH} (h : f A = none) : bind f g A = none := by unfold bind; rw [h]
def map (g : α → β) (f : M α) : M β := f.bind fun a => ret (g a)
end M
inductive SR where
  | nx (σ : EnvD) (A : AH) | rt (d : D) (A : AH) | bk (σ : EnvD) (A : AH) | ct (σ : EnvD) (A : AH) | exc (x : Exc) (σ : EnvD) (A : AH)
/-- an expression, a test, a list of arguments; a statement -/
abbrev BE := EnvD → M D
abbrev BT := EnvD → M Bool
abbrev BA := EnvD → M (List D)
abbrev BS := EnvD → AH → Option SR

section
variable (K : PySem.W.Frag) (W : WX)
def OkE {α β : Type} (R : List Addr → AH → Hp → α → β → Prop) (r : Option (Res α)) (ρ : List Addr) (A : AH) (σ : St) (H : Hp) (Q : β → Hp → Prop) : Prop :=
  match r with
  | none => False
  | some (.val a A') => ∀ ρ' H' b, Step K ρ A H ρ' A' H' → R ρ' A' H' a b → Q b H'
  | some (.exc x A') => ∀ ρ' H' c dx, Step K ρ A H ρ' A' H' → RelX K ρ' A' H' x c dx → W c dx σ H'
def OkS (D : Ends) (r : Option SR) (ρ : List Addr) (A : AH) (H : Hp) : Prop :=
  match r with
  | none => False
  | some (.nx σD A') => ∀ ρ' H' σ', Step K ρ A H ρ' A' H' → RelEnv K ρ' A' H' σD σ' → D.nx σ' H'
  | some (.bk σD A') => ∀ ρ' H' σ', Step K ρ A H ρ' A' H' → RelEnv K ρ' A' H' σD σ' → D.bk σ' H'
  | some (.ct σD A') => ∀ ρ' H' σ', Step K ρ A H ρ' A' H' → RelEnv K ρ' A' H' σD σ' → D.ct σ' H'
  | some (.rt d A') => ∀ ρ' H' v, Step K ρ A H ρ' A' H' → RelD K ρ' A' H' d v → D.rt v H'
  | some (.exc x σD A') => ∀ ρ' H' σ' c dx, Step K ρ A H ρ' A' H' → RelEnv K ρ' A' H' σD σ' → RelX K ρ' A' H' x c dx → W c dx σ' H'
def RBool : List Addr → AH → Hp → Bool → Bool → Prop := fun _ _ _ a b => a = b
/-- the readings -/
def tG {α β : Type} (R : List Addr → AH → Hp → α → β → Prop) (f : EnvD → M α) : St → Hp → (β → Hp → Prop) → Prop := fun σ H Q =>
  ∃ ρ A σD, Rep K ρ A H ∧ RelEnv K ρ A H σD σ ∧ OkE K W R (f σD A) ρ A σ H Q
def tE (f : BE) : TE := tG K W (RelD K) f
def tT (f : BT) : TT := tG K W RBool f
def tA (f : BA) : TA := tG K W (RelDs K) f
def tS (f : BS) : TS := fun D σ H => ∃ ρ A σD, Rep K ρ A H ∧ RelEnv K ρ A H σD σ ∧ OkS K W D (f σD A) ρ A H
end

section
variable {K : PySem.W.Frag} {W : WX} {α β γ δ : Type} {R : List Addr → AH → Hp → α → β → Prop} {R' : List Addr → AH → Hp → γ → δ → Prop} {ρ ρ' : List Addr} {A A' : AH} {H H' : Hp} {σ : St}
theorem OkE.mono {r : Option (Res α)} {Q Q' : β → Hp → Prop} (h : OkE K W R r ρ A σ H Q) (m : ∀ b H, Q b H → Q' b H) : OkE K W R r ρ A σ H Q' := by
  match r, h with
  | some (.val a A'), h => exact fun ρ' H' b s q => m _ _ (h ρ' H' b s q)
  | some (.exc x A'), h => exact h
theorem OkE.step {r : Option (Res α)} {Q : β → Hp → Prop} (s : Step K ρ A H ρ' A' H') (h : OkE K W R r ρ A σ H Q) : OkE K W R r ρ' A' σ H' Q := by
  match r, h with
  | some (.val a A'), h => exact fun ρ2 H2 b s2 q => h ρ2 H2 b (s.trans s2) q
  | some (.exc x A'), h => exact fun ρ2 H2 c dx s2 q => h ρ2 H2 c dx (s.trans s2) q
theorem OkE.bind {f : M α} {g : α → M γ} {Q : δ → Hp → Prop} (h : OkE K W R' (M.bind f g A) ρ A σ H Q) :
    OkE K W R (f A) ρ A σ H fun b H1 => ∃ ρ1 A1 a, Step K ρ A H ρ1 A1 H1 ∧ R ρ1 A1 H1 a b ∧ OkE K W R' (g a A1) ρ1 A1 σ H1 Q := by
  unfold M.bind at h
  cases e : f A with
  | none => rw [e] at h; exact h.elim
  | some r =>
    rw [e] at h
    cases r with
    | val a A1 => exact fun ρ1 H1 b s q => ⟨ρ1, A1, a, s, q, OkE.step s h⟩
    | exc x A1 => exact h
theorem OkE.ret {a : α} {b : β} {Q : β → Hp → Prop} (r : Rep K ρ A H) (h : OkE K W R (M.ret a A) ρ A σ H Q) (q : R ρ A H a b) : Q b H := h ρ H b (Step.refl r) q
theorem OkE.val {a : α} {b : β} {Q : β → Hp → Prop} (h : OkE K W R (some (.val a A')) ρ A σ H Q) (s : Step K ρ A H ρ' A' H') (q : R ρ' A' H' a b) : Q b H' := h ρ' H' b s q
theorem tG.mono {f : EnvD → M α} {Q Q' : β → Hp → Prop} (h : tG K W R f σ H Q) (m : ∀ b H, Q b H → Q' b H) : tG K W R f σ H Q' :=
  let ⟨ρ, A, σD, r, e, o⟩ := h; ⟨ρ, A, σD, r, e, o.mono m⟩
/-- the first of two -/
theorem tG.bind {f : EnvD → M α} {g : EnvD → α → M γ} {Q : δ → Hp → Prop} (h : tG K W R' (fun σD => M.bind (f σD) (g σD)) σ H Q) :
    tG K W R f σ H fun b H1 => ∃ ρ1 A1 σD a, Rep K ρ1 A1 H1 ∧ RelEnv K ρ1 A1 H1 σD σ ∧ R ρ1 A1 H1 a b ∧ OkE K W R' (g σD a A1) ρ1 A1 σ H1 Q :=
  let ⟨ρ, A, σD, r, e, o⟩ := h
  ⟨ρ, A, σD, r, e, (OkE.bind (R := R) o).mono fun b H1 ⟨ρ1, A1, a, s, q, o1⟩ => ⟨ρ1, A1, σD, a, s.rep, e.step r s, q, o1⟩⟩
end

/-! ### monotone judgements -/
section
variable {X : Cx}
theorem _root_.L2.PE.imp {e : Expr} {t t' : TE} (h : PE X e t) (m : ∀ σ H Q, t' σ H Q → t σ H Q) : PE X e t' := ⟨fun pins s σ H Q I w => h.run pins s σ H Q I (m _ _ _ w)⟩
theorem _root_.L2.PT.imp {e : Expr} {t t' : TT} (h : PT X e t) (m : ∀ σ H Q, t' σ H Q → t σ H Q) : PT X e t' := ⟨fun pins s σ H Q I w => h.run pins s σ H Q I (m _ _ _ w)⟩
theorem _root_.L2.PW.imp {e : Expr} {t t' : TT} (h : PW X e t) (m : ∀ σ H Q, t' σ H Q → t σ H Q) : PW X e t' := ⟨fun wh pins s σ H Q I w => h.run wh pins s σ H Q I (m _ _ _ w)⟩
theorem _root_.L2.PA.imp {e : List Expr} {t t' : TA} (h : PA X e t) (m : ∀ σ H Q, t' σ H Q → t σ H Q) : PA X e t' := ⟨fun pos pins s σ H Q I w => h.run pos pins s σ H Q I (m _ _ _ w)⟩
theorem _root_.L2.PS.imp {e : Stmt} {t t' : TS} (h : PS X e t) (m : ∀ D σ H, t' D σ H → t D σ H) : PS X e t' := ⟨fun pins s σ H D I w => h.run pins s σ H D I (m _ _ _ w)⟩
theorem _root_.L2.PSs.imp {e : List Stmt} {t t' : TS} (h : PSs X e t) (m : ∀ D σ H, t' D σ H → t D σ H) : PSs X e t' := ⟨fun pins s σ H D I w => h.run pins s σ H D I (m _ _ _ w)⟩
end

/-! ### names, constants -/
def bVar (i : Nat) : BE := fun σ => match σ[i]? with
  | some (some d) => M.ret d
  | _ => M.stuck
def bC (x : P) : BE := fun _ => M.ret (.p x)
section
variable {X : Cx} {W : WX} {K : PySem.W.Frag}
theorem rVar {i : Nat} {σ : St} {H : Hp} {Q : VK} (h : tE K W (bVar i) σ H Q) : tVar i σ H Q := by
  obtain ⟨ρ, A, σD, r, e, o⟩ := h
  unfold bVar at o
  cases q : σD[i]? with
  | none => rw [q] at o; exact o.elim
  | some d0 =>
    rw [q] at o
    cases d0 with
    | none => exact o.elim
    | some d =>
      obtain ⟨v, h1, h2⟩ := e.2 i d q
      exact ⟨v, h1, OkE.ret r o h2⟩
theorem e_var {i : Nat} {x : Str} {pos : Pos} (hN : X.N[i]? = some x) (hv : Vis X.env.scope x) (hd : (x == ("__debug__" : Str)) = false := by decide) (hcd : (x == ("__classdict__" : Str)) = false := by decide) : PE X (.Name x pos) (tE X.K W (bVar i)) :=
  (pe_var hN hv hd hcd).imp fun _ _ _ h => rVar h
theorem rC {x : P} {v : V} {σ : St} {H : Hp} {Q : VK} (hv : ∀ L H, RelP K L H x v) (h : tE K W (bC x) σ H Q) : tC v σ H Q := by
  obtain ⟨ρ, A, σD, r, e, o⟩ := h
  exact OkE.ret r o (hv _ _)
theorem e_int {i : Int} {j pos} : PE X (.Constant (.int i) j pos) (tE X.K W (bC (.int i))) := pe_int.imp fun _ _ _ h => rC (fun _ _ => by simp only [RelP]) h
theorem e_bl {b : Bool} {j pos} : PE X (.Constant (.bool b) j pos) (tE X.K W (bC (.bl b))) := pe_bl.imp fun _ _ _ h => rC (fun _ _ => by simp only [RelP]) h
theorem e_non {j pos} : PE X (.Constant .none j pos) (tE X.K W (bC .non)) := pe_non.imp fun _ _ _ h => rC (fun _ _ => by simp only [RelP]) h
theorem e_str {x : Str} {j pos} : PE X (.Constant (.str x) j pos) (tE X.K W (bC (.str x))) := pe_str.imp fun _ _ _ h => rC (fun _ _ => by simp only [RelP]) h
/-- a module's name -/
theorem e_glob {x : Str} {q : P} {v : V} {u : Value} {pos : Pos} (hv : ∀ L H, RelP X.K L H q v) (r : RelV v u) (hg : Gl X x) (hm : X.mg x = some u) (hd : (x == ("__debug__" : Str)) = false := by decide) : PE X (.Name x pos) (tE X.K W (bC q)) :=
  (pe_glob hg hm r hd).imp fun _ _ _ h => rC hv h
end

/-! ### two-place operations -/
/-- a value rule in the functions' terms -/
def R2D (K : PySem.W.Frag) (W : WX) (g : D → D → M D) (r : R2) : Prop := ∀ ρ A (σ : St) H x y v u Q, Rep K ρ A H → RelD K ρ A H x v → RelD K ρ A H y u → OkE K W (RelD K) (g x y A) ρ A σ H Q → r v u H Q
def bOp (g : D → D → M D) (fa fb : BE) : BE := fun σ => (fa σ).bind fun x => (fb σ).bind fun y => g x y
section
variable {X : Cx} {W : WX} {K : PySem.W.Frag} {fa fb : BE} {a b : Expr} {pos : Pos}
theorem rOp {g : D → D → M D} {r : R2} (hg : R2D K W g r) {σ : St} {H : Hp} {Q : VK} (h : tE K W (bOp g fa fb) σ H Q) : tOp r (tE K W fa) (tE K W fb) σ H Q := by
  refine tG.mono (tG.bind h) fun v H1 ⟨ρ1, A1, σD, x, r1, e1, rx, o1⟩ => ?_
  have s0 := o1
  refine ⟨ρ1, A1, σD, r1, e1, (OkE.bind (R := RelD K) o1).mono fun u H2 ⟨ρ2, A2, y, s2, ry, o2⟩ => ?_⟩
  exact hg ρ2 A2 σ H2 x y v u Q s2.rep (rx.step r1 s2) ry o2
theorem e_op {op : Operator} {g : D → D → M D} {r : R2} (hg : R2D X.K W g r) (ho : OpR X (binaryOp op) r) (ha : PE X a (tE X.K W fa)) (hb : PE X b (tE X.K W fb)) : PE X (.BinOp a op b pos) (tE X.K W (bOp g fa fb)) :=
  (pe_op ho ha hb).imp fun _ _ _ h => rOp hg h
theorem e_cmp {op : CmpOp} {g : D → D → M D} {r : R2} (hg : R2D X.K W g r) (ho : OpR X (compareOp op) r) (ha : PE X a (tE X.K W fa)) (hb : PE X b (tE X.K W fb)) (hm : behindInMarks op b = false) : PE X (.Compare a [op] [b] pos) (tE X.K W (bOp g fa fb)) :=
  (pe_cmpR ho ha hb hm).imp fun _ _ _ h => rOp hg h
/-- a value that is a bool, as a test -/
def bTest (f : BE) : BT := fun σ => (f σ).bind fun x => match x with
  | .p (.bl b) => M.ret b
  | _ => M.stuck
theorem rTest {fa : BE} {σ : St} {H : Hp} {Q : Bool → Hp → Prop} (h : tT K W (bTest fa) σ H Q) : tTest (tE K W fa) σ H Q := by
  refine tG.mono (tG.bind (f := fa) h) fun v H1 ⟨ρ1, A1, σD, x, r1, e1, rx, o1⟩ => ?_
  match x, rx, o1 with
  | .p (.bl b), rx, o1 =>
    simp only [RelD, RelP] at rx
    exact ⟨b, rx, OkE.ret r1 o1 rfl⟩
  | .p .non, _, o1 => exact o1.elim
  | .p (.int _), _, o1 => exact o1.elim
  | .p (.str _), _, o1 => exact o1.elim
  | .p (.tup _), _, o1 => exact o1.elim
  | .p (.ktup _), _, o1 => exact o1.elim
  | .p (.lst _), _, o1 => exact o1.elim
  | .p (.klst _), _, o1 => exact o1.elim
  | .p (.dic _ _), _, o1 => exact o1.elim
  | .p (.obj _ _), _, o1 => exact o1.elim
  | .p (.rf _), _, o1 => exact o1.elim
  | .p (.ty _), _, o1 => exact o1.elim
  | .ref _, _, o1 => exact o1.elim
theorem t_val (h : PE X a (tE X.K W fa)) (he : ∀ whole, isTrue a X.env whole = (do let v ← whole; standAt a.pos; holding [v] (truthy v)) := by intro _; rfl) : PT X a (tT X.K W (bTest fa)) :=
  (pt_val h he).imp fun _ _ _ h => rTest h
theorem t_cmp {op : CmpOp} {g : D → D → M D} {r : R2} (hg : R2D X.K W g r) (ho : OpR X (compareOp op) r) (ha : PE X a (tE X.K W fa)) (hb : PE X b (tE X.K W fb)) (hm : behindInMarks op b = false) : PT X (.Compare a [op] [b] pos) (tT X.K W (bTest (bOp g fa fb))) := by
  refine (pt_cmpR ho ha hb hm).imp fun σ H Q h => ?_
  have h1 := rTest h
  obtain ⟨ρ, A, σD, r0, e0, o⟩ := h1
  exact rOp hg ⟨ρ, A, σD, r0, e0, o⟩
end

/-! ### and, or, not, if -/
def bAnd (f g : BT) : BT := fun σ => (f σ).bind fun b => if b then g σ else M.ret false
def bOr (f g : BT) : BT := fun σ => (f σ).bind fun b => if b then M.ret true else g σ
def bNot (f : BT) : BT := fun σ => (f σ).bind fun b => M.ret (!b)
/-- a test as a value -/
def bOfT (f : BT) : BE := fun σ => (f σ).bind fun b => M.ret (.p (.bl b))
def bIf (c : BT) (f g : BE) : BE := fun σ => (c σ).bind fun b => if b then f σ else g σ
section
variable {X : Cx} {W : WX} {K : PySem.W.Frag} {fa fb : BE} {ca cb : BT} {a b c : Expr} {rest : List Expr} {pos : Pos}
theorem t_and1 (ha : PT X a (tT X.K W ca)) : PW X (.BoolOp .And [a] pos) (tT X.K W ca) := pw_and1 ha
theorem t_or1 (ha : PT X a (tT X.K W ca)) : PW X (.BoolOp .Or [a] pos) (tT X.K W ca) := pw_or1 ha
theorem t_and (ha : PT X a (tT X.K W ca)) (hb : PW X (.BoolOp .And (b :: rest) pos) (tT X.K W cb)) : PW X (.BoolOp .And (a :: b :: rest) pos) (tT X.K W (bAnd ca cb)) := by
  refine (pw_and ha hb).imp fun σ H Q h => ?_
  refine tG.mono (tG.bind (f := ca) h) fun k H1 ⟨ρ1, A1, σD, x, r1, e1, rx, o1⟩ => ?_
  cases (show x = k from rx)
  cases k with
  | true => exact ⟨ρ1, A1, σD, r1, e1, o1⟩
  | false => exact OkE.ret r1 o1 rfl
theorem t_or (ha : PT X a (tT X.K W ca)) (hb : PW X (.BoolOp .Or (b :: rest) pos) (tT X.K W cb)) : PW X (.BoolOp .Or (a :: b :: rest) pos) (tT X.K W (bOr ca cb)) := by
  refine (pw_or ha hb).imp fun σ H Q h => ?_
  refine tG.mono (tG.bind (f := ca) h) fun k H1 ⟨ρ1, A1, σD, x, r1, e1, rx, o1⟩ => ?_
  cases (show x = k from rx)
  cases k with
  | false => exact ⟨ρ1, A1, σD, r1, e1, o1⟩
  | true => exact OkE.ret r1 o1 rfl
theorem t_not (ha : PT X a (tT X.K W ca)) : PT X (.UnaryOp .Not a pos) (tT X.K W (bNot ca)) := by
  refine (pt_not ha).imp fun σ H Q h => ?_
  refine tG.mono (tG.bind (f := ca) h) fun k H1 ⟨ρ1, A1, σD, x, r1, e1, rx, o1⟩ => ?_
  cases (show x = k from rx)
  exact OkE.ret r1 o1 rfl
/-- and, or of values (all but the last are bools) -/
def bAndV (f : BE) (g : BE) : BE := fun σ => (bTest f σ).bind fun b => if b then g σ else M.ret (.p (.bl false))
def bOrV (f : BE) (g : BE) : BE := fun σ => (bTest f σ).bind fun b => if b then M.ret (.p (.bl true)) else g σ
theorem e_one {op} (h : PE X a (tE X.K W fa)) : PE X (.BoolOp op [a] pos) (tE X.K W fa) := pe_one h
theorem e_and (ha : PE X a (tE X.K W fa)) (hb : PE X (.BoolOp .And (b :: rest) pos) (tE X.K W fb)) : PE X (.BoolOp .And (a :: b :: rest) pos) (tE X.K W (bAndV fa fb)) := by
  refine (pe_and ha hb).imp fun σ H Q h => ?_
  have h1 : tT X.K W (bTest fa) σ H _ := tG.bind (f := bTest fa) (R := RBool) h
  refine tG.mono (rTest h1) fun k H1 ⟨b, e, ρ1, A1, σD, x, r1, e1, rx, o1⟩ => ⟨b, e, ?_⟩
  cases (show x = b from rx)
  cases b with
  | true => exact ⟨ρ1, A1, σD, r1, e1, o1⟩
  | false => exact OkE.ret r1 o1 (by simp only [RelD, RelP])
theorem e_or (ha : PE X a (tE X.K W fa)) (hb : PE X (.BoolOp .Or (b :: rest) pos) (tE X.K W fb)) : PE X (.BoolOp .Or (a :: b :: rest) pos) (tE X.K W (bOrV fa fb)) := by
  refine (pe_or ha hb).imp fun σ H Q h => ?_
  have h1 : tT X.K W (bTest fa) σ H _ := tG.bind (f := bTest fa) (R := RBool) h
  refine tG.mono (rTest h1) fun k H1 ⟨b, e, ρ1, A1, σD, x, r1, e1, rx, o1⟩ => ⟨b, e, ?_⟩
  cases (show x = b from rx)
  cases b with
  | false => exact ⟨ρ1, A1, σD, r1, e1, o1⟩
  | true => exact OkE.ret r1 o1 (by simp only [RelD, RelP])
theorem e_not (ha : PE X a (tE X.K W fa)) : PE X (.UnaryOp .Not a pos) (tE X.K W (bOfT (bNot (bTest fa)))) := by
  refine (pe_not ha).imp fun σ H Q h => ?_
  have h1 : tT X.K W (bTest fa) σ H _ := tG.bind (f := bTest fa) (R := RBool) (R' := RelD X.K) (γ := D) (g := fun σ b => M.ret (.p (.bl (!b)))) (by
    obtain ⟨ρ, A, σD, r0, e0, o⟩ := h
    refine ⟨ρ, A, σD, r0, e0, ?_⟩
    have : (bOfT (bNot (bTest fa)) σD) A = M.bind (bTest fa σD) (fun b => M.ret (.p (.bl (!b)))) A := by
      unfold bOfT bNot M.bind
      cases bTest fa σD A with
      | none => rfl
      | some r => cases r <;> rfl
    rw [this] at o; exact o)
  refine tG.mono (rTest h1) fun k H1 ⟨b, e, ρ1, A1, σD, x, r1, e1, rx, o1⟩ => ⟨b, e, ?_⟩
  cases (show x = b from rx)
  exact OkE.ret r1 o1 (by simp only [RelD, RelP])
theorem e_if (hc : PT X c (tT X.K W ca)) (ha : PE X a (tE X.K W fa)) (hb : PE X b (tE X.K W fb)) : PE X (.IfExp c a b pos) (tE X.K W (bIf ca fa fb)) := by
  refine (pe_ifExp hc ha hb).imp fun σ H Q h => ?_
  refine tG.mono (tG.bind (f := ca) h) fun k H1 ⟨ρ1, A1, σD, x, r1, e1, rx, o1⟩ => ?_
  cases (show x = k from rx)
  cases k with
  | true => exact ⟨ρ1, A1, σD, r1, e1, o1⟩
  | false => exact ⟨ρ1, A1, σD, r1, e1, o1⟩
end

/-! ### arguments, displays -/
def bNil : BA := fun _ => M.ret []
def bCons (f : BE) (g : BA) : BA := fun σ => (f σ).bind fun x => (g σ).bind fun xs => M.ret (x :: xs)
/-- all pure -/
def pures : List D → Option (List P)
  | [] => some []
  | .p x :: r => (pures r).map (x :: ·)
  | .ref _ :: _ => none
def bTup (f : BA) : BE := fun σ => (f σ).bind fun ds => match pures ds with
  | some xs => M.need (xs.length ≤ sizeLine) (M.ret (.p (.tup xs)))
  | none => M.stuck
def bLst (f : BA) : BE := fun σ => (f σ).bind fun ds => match pures ds with
  | some xs => M.need (xs.length ≤ sizeLine) (M.ret (.p (.lst xs)))
  | none => M.stuck
/-- a list that will be changed -/
def bLstM (f : BA) : BE := fun σ => (f σ).bind fun ds => match pures ds with
  | some xs => M.need (xs.length ≤ sizeLine) (fun A => some (.val (.ref A.length) (A ++ [some (.lst xs)])))
  | none => M.stuck
section
variable {X : Cx} {W : WX} {K : PySem.W.Frag} {fa : BE} {ga : BA} {e : Expr} {es : List Expr} {pos : Pos} {ρ : List Addr} {A : AH} {H : Hp}
theorem RelPs.length {L : Addr → Prop} : ∀ {xs : List P} {vs : List V}, RelPs K L H xs vs → xs.length = vs.length
  | [], _, h => by simp only [RelPs] at h; subst h; rfl
  | x :: r, _, h => by
    simp only [RelPs] at h
    obtain ⟨v, w, rfl, _, h⟩ := h
    simp [RelPs.length h]
theorem RelDs.pures : ∀ {ds : List D} {xs : List P} {vs : List V}, pures ds = some xs → RelDs K ρ A H ds vs → RelPs K (Lv ρ A) H xs vs
  | [], _, _, e, h => by cases e; simp only [RelPs]; exact h
  | .p x :: r, xs, vs, e, h => by
    obtain ⟨v, w, rfl, a, b⟩ := h
    unfold PF.pures at e
    cases q : PF.pures r with
    | none => rw [q] at e; cases e
    | some ys =>
      rw [q] at e; cases e
      simp only [RelPs]
      exact ⟨v, w, rfl, a, RelDs.pures q b⟩
  | .ref _ :: _, _, _, e, _ => by cases e
theorem a_nil : PA X [] (tA X.K W bNil) := pa_nil.imp fun σ H Q h => by
  obtain ⟨ρ, A, σD, r, e, o⟩ := h
  exact OkE.ret r o rfl
theorem a_cons (ha : PE X e (tE X.K W fa)) (hr : PA X es (tA X.K W ga)) (hs : starEach (e :: es) X.env = (false, eval e X.env) :: starEach es X.env := by rfl) : PA X (e :: es) (tA X.K W (bCons fa ga)) := by
  refine (pa_cons ha hr hs).imp fun σ H Q h => ?_
  refine tG.mono (tG.bind (f := fa) h) fun v H1 ⟨ρ1, A1, σD, x, r1, e1, rx, o1⟩ => ?_
  refine ⟨ρ1, A1, σD, r1, e1, (OkE.bind (R := RelDs X.K) o1).mono fun us H2 ⟨ρ2, A2, xs, s2, ry, o2⟩ => ?_⟩
  exact OkE.ret s2.rep o2 ⟨v, us, rfl, rx.step r1 s2, ry⟩
theorem need_ok {α β : Type} {R : List Addr → AH → Hp → α → β → Prop} {c : Prop} [Decidable c] {f : M α} {σ : St} {Q : β → Hp → Prop} (h : OkE K W R (M.need c f A) ρ A σ H Q) : c ∧ OkE K W R (f A) ρ A σ H Q := by
  unfold M.need at h
  by_cases hc : c
  · rw [if_pos hc] at h; exact ⟨hc, h⟩
  · rw [if_neg hc] at h; exact h.elim
theorem e_tup {k} (h : PA X es (tA X.K W ga)) : PE X (.Tuple es k pos) (tE X.K W (bTup ga)) := by
  refine (pe_tup h).imp fun σ H Q h => ?_
  refine tG.mono (tG.bind (f := ga) h) fun vs H1 ⟨ρ1, A1, σD, ds, r1, e1, rd, o1⟩ => ?_
  cases q : pures ds with
  | none => rw [q] at o1; exact o1.elim
  | some xs =>
    rw [q] at o1
    obtain ⟨c, o1⟩ := need_ok o1
    have rp := RelDs.pures q rd
    refine ⟨by rw [← rp.length]; exact c, fun p hp => ?_⟩
    have s := Step.laid (p := p) r1 (.tup vs) hp
    refine OkE.val o1 s ?_
    simp only [RelD, RelP]
    exact ⟨p, vs, rfl, upd_same, rp.step r1 s⟩
theorem e_lst (h : PA X es (tA X.K W ga)) : PE X (.List es pos) (tE X.K W (bLst ga)) := by
  refine (pe_lst h).imp fun σ H Q h => ?_
  refine tG.mono (tG.bind (f := ga) h) fun vs H1 ⟨ρ1, A1, σD, ds, r1, e1, rd, o1⟩ => ?_
  cases q : pures ds with
  | none => rw [q] at o1; exact o1.elim
  | some xs =>
    rw [q] at o1
    obtain ⟨c, o1⟩ := need_ok o1
    have rp := RelDs.pures q rd
    refine ⟨by rw [← rp.length]; exact c, fun p hp => ?_⟩
    have s := Step.laid (p := p) r1 (.lst vs) hp
    refine OkE.val o1 s ?_
    simp only [RelD, RelP]
    exact ⟨p, vs, rfl, r1.notNone hp, upd_same, rp.step r1 s⟩
theorem e_lstM (h : PA X es (tA X.K W ga)) : PE X (.List es pos) (tE X.K W (bLstM ga)) := by
  refine (pe_lst h).imp fun σ H Q h => ?_
  refine tG.mono (tG.bind (f := ga) h) fun vs H1 ⟨ρ1, A1, σD, ds, r1, e1, rd, o1⟩ => ?_
  cases q : pures ds with
  | none => rw [q] at o1; exact o1.elim
  | some xs =>
    rw [q] at o1
    obtain ⟨c, o1⟩ := need_ok o1
    have rp := RelDs.pures q rd
    refine ⟨by rw [← rp.length]; exact c, fun p hp => ?_⟩
    have s := Step.mut (p := p) (o := .lst xs) (ho := .lst vs) r1 hp ⟨vs, rfl, rp⟩
    refine OkE.val o1 s ⟨p, ?_, rfl⟩
    rw [← r1.len, List.getElem?_append_right (Nat.le_refl _)]; simp
end
end PF

/-! text PF3 -/
set_option Elab.async false
set_option linter.all false
set_option maxRecDepth 100000
/-! PF3: statements, loops, comprehensions, defs. -/
namespace PF
open PySem L2

/-- the context of a body: what is wished of exceptions W is taken, loops pass them on -/
structure Co (X : Cx) (W : WX) : Prop where
  tk : Takes X W
  hp : PassesOwn (model X.prog X.w) X.A X.env X.xe
  calm : X.calm = true
  nd : X.N.Nodup
  fn : ∀ x, X.fn x = true

/-! ### statements as functions -/
def sSkip : BS := fun σ A => some (.nx σ A)
def sSeq (f g : BS) : BS := fun σ A => match f σ A with
  | some (.nx σ' A') => g σ' A'
  | r => r
def sThen (f : BE) (k : D → EnvD → AH → Option SR) : BS := fun σ A => match f σ A with
  | none => none
  | some (.exc x A') => some (.exc x σ A')
  | some (.val d A') => k d σ A'
def sExpr (f : BE) : BS := sThen f fun _ σ A => some (.nx σ A)
def sRet (f : BE) : BS := sThen f fun d _ A => some (.rt d A)
def sRetN : BS := fun _ A => some (.rt (.p .non) A)
def sBreak : BS := fun σ A => some (.bk σ A)
def sCont : BS := fun σ A => some (.ct σ A)
def sIf (c : BT) (f g : BS) : BS := fun σ A => match c σ A with
  | none => none
  | some (.exc x A') => some (.exc x σ A')
  | some (.val b A') => if b then f σ A' else g σ A'
def sNever : BS := fun _ _ => none
/-- targets (storing raises nothing here) -/
abbrev BG := D → EnvD → AH → Option (EnvD × AH)
abbrev BGs := List D → EnvD → AH → Option (EnvD × AH)
def gNm (i : Nat) : BG := fun d σ A => some (σ.set i (some d), A)
def gNl : BGs := fun ds σ A => match ds with
  | [] => some (σ, A)
  | _ :: _ => none
def gCs (g : BG) (h : BGs) : BGs := fun ds σ A => match ds with
  | [] => none
  | d :: r => match g d σ A with
    | none => none
    | some (σ1, A1) => h r σ1 A1
def gTp (n : Nat) (g : BGs) : BG := fun d σ A => match d with
  | .p (.tup xs) => if xs.length = n then g (xs.map .p) σ A else none
  | _ => none
/-- a target's end: only the slots is may have changed -/
def OkG (K : PySem.W.Frag) (is : List Nat) (σ : St) (r : Option (EnvD × AH)) (ρ : List Addr) (A : AH) (H : Hp) (Q : St → Hp → Prop) : Prop :=
  match r with
  | none => False
  | some (σD, A') => ∀ ρ' H' σ', Step K ρ A H ρ' A' H' → RelEnv K ρ' A' H' σD σ' → σ'.length = σ.length → (∀ j, j ∉ is → σ'[j]? = σ[j]?) → Q σ' H'
def sAsg (f : BE) (g : BG) : BS := sThen f fun d σ A => match g d σ A with
  | none => none
  | some (σ', A') => some (.nx σ' A')
def sSet (f : BE) (i : Nat) : BS := sAsg f (gNm i)

section
variable {X : Cx} {W : WX} {K : PySem.W.Frag} {ρ ρ' : List Addr} {A A' : AH} {H H' : Hp} {σ : St} {σD : EnvD} {Dn : Ends}
theorem OkS.step {r : Option SR} (s : Step K ρ A H ρ' A' H') (h : OkS K W Dn r ρ A H) : OkS K W Dn r ρ' A' H' := by
  match r, h with
  | some (.nx _ _), h => exact fun a b c d e => h a b c (s.trans d) e
  | some (.bk _ _), h => exact fun a b c d e => h a b c (s.trans d) e
  | some (.ct _ _), h => exact fun a b c d e => h a b c (s.trans d) e
  | some (.rt _ _), h => exact fun a b c d e => h a b c (s.trans d) e
  | some (.exc _ _ _), h => exact fun a b c d e f g i => h a b c d e (s.trans f) g i
theorem RelEnv.set (e : RelEnv K ρ A H σD σ) {i : Nat} {d : D} {v : V} (r : RelD K ρ A H d v) : RelEnv K ρ A H (σD.set i (some d)) (σ.set i (some v)) := by
  refine ⟨by simp [e.1], fun j d' h => ?_⟩
  by_cases hj : j = i
  · subst hj
    by_cases hl : j < σD.length
    · rw [List.getElem?_set_self hl] at h; cases h
      exact ⟨v, by rw [List.getElem?_set_self (by rw [← e.1]; exact hl)], r⟩
    · rw [List.getElem?_eq_none (by simpa using hl)] at h; cases h
  · rw [List.getElem?_set_ne (Ne.symm hj)] at h
    rw [List.getElem?_set_ne (Ne.symm hj)]
    exact e.2 j d' h
theorem RelDs.map {xs : List P} : ∀ {vs : List V}, RelPs K (Lv ρ A) H xs vs → RelDs K ρ A H (xs.map .p) vs := by
  induction xs with
  | nil => intro vs h; simp only [RelPs] at h; exact h
  | cons x r ih =>
    intro vs h
    simp only [RelPs] at h
    obtain ⟨v, w, rfl, a, b⟩ := h
    exact ⟨v, w, rfl, a, ih b⟩
/-- an expression, then the rest -/
theorem rThen {f : BE} {k : D → EnvD → AH → Option SR} (h : tS K W (sThen f k) Dn σ H) :
    tE K W f σ H fun v H1 => ∃ ρ1 A1 σD d, Rep K ρ1 A1 H1 ∧ RelEnv K ρ1 A1 H1 σD σ ∧ RelD K ρ1 A1 H1 d v ∧ OkS K W Dn (k d σD A1) ρ1 A1 H1 := by
  obtain ⟨ρ, A, σD, r, e, o⟩ := h
  refine ⟨ρ, A, σD, r, e, ?_⟩
  unfold sThen at o
  cases q : f σD A with
  | none => rw [q] at o; exact o.elim
  | some z =>
    rw [q] at o
    cases z with
    | exc x A1 => exact fun ρ' H' c dx s rx => o ρ' H' σ c dx s (e.step r s) rx
    | val d A1 => exact fun ρ1 H1 v s rv => ⟨ρ1, A1, σD, d, s.rep, e.step r s, rv, OkS.step s o⟩
theorem ss_nil : PSs X [] (tS X.K W sSkip) := pss_nil.imp fun D σ H ⟨ρ, A, σD, r, e, o⟩ => o ρ H σ (Step.refl r) e
theorem ss_cons {st : Stmt} {rest : List Stmt} {f g : BS} (h1 : PS X st (tS X.K W f)) (h2 : PSs X rest (tS X.K W g)) : PSs X (st :: rest) (tS X.K W (sSeq f g)) := by
  refine (pss_cons h1 h2).imp fun D σ H ⟨ρ, A, σD, r, e, o⟩ => ⟨ρ, A, σD, r, e, ?_⟩
  unfold sSeq at o
  cases q : f σD A with
  | none => rw [q] at o; exact o.elim
  | some z =>
    rw [q] at o
    cases z with
    | nx σ1 A1 => exact fun ρ1 H1 σ' s e1 => ⟨ρ1, A1, σ1, s.rep, e1, OkS.step s o⟩
    | rt d A1 => exact o
    | bk _ _ => exact o
    | ct _ _ => exact o
    | exc _ _ _ => exact o
theorem ss_one {st : Stmt} {f : BS} (h1 : PS X st (tS X.K W f)) : PSs X [st] (tS X.K W f) := pss_one h1
theorem s_pass {pos} : PS X (.Pass pos) (tS X.K W sSkip) := ps_pass.imp fun D σ H ⟨ρ, A, σD, r, e, o⟩ => o ρ H σ (Step.refl r) e
theorem s_break {pos} : PS X (.Break pos) (tS X.K W sBreak) := ps_break.imp fun D σ H ⟨ρ, A, σD, r, e, o⟩ => o ρ H σ (Step.refl r) e
theorem s_cont {pos} : PS X (.Continue pos) (tS X.K W sCont) := ps_continue.imp fun D σ H ⟨ρ, A, σD, r, e, o⟩ => o ρ H σ (Step.refl r) e
theorem s_retN {pos} : PS X (.Return none pos) (tS X.K W sRetN) := ps_retN.imp fun D σ H ⟨ρ, A, σD, r, e, o⟩ => o ρ H .non (Step.refl r) (by simp only [RelD, RelP])
theorem s_never {st : Stmt} : PS X st (tS X.K W sNever) := ps_never.imp fun D σ H ⟨ρ, A, σD, r, e, o⟩ => o.elim
theorem ss_never {st : List Stmt} : PSs X st (tS X.K W sNever) := pss_never.imp fun D σ H ⟨ρ, A, σD, r, e, o⟩ => o.elim
theorem s_expr {e : Expr} {f : BE} {pos : Pos} (he : PE X e (tE X.K W f)) (hs : swapsWith e none pos.line X.env = pure false := by rfl) : PS X (.Expr e pos) (tS X.K W (sExpr f)) :=
  (ps_expr he hs).imp fun D σ H h => tG.mono (rThen h) fun v H1 ⟨ρ1, A1, σD, d, r, e, rv, o⟩ => o ρ1 H1 σ (Step.refl r) e
theorem s_ret {e : Expr} {f : BE} {pos : Pos} (he : PE X e (tE X.K W f)) : PS X (.Return (some e) pos) (tS X.K W (sRet f)) :=
  (ps_ret he).imp fun D σ H h => tG.mono (rThen h) fun v H1 ⟨ρ1, A1, σD, d, r, e, rv, o⟩ => o ρ1 H1 v (Step.refl r) rv
theorem s_if {c : Expr} {a b : List Stmt} {cf : BT} {f g : BS} {pos : Pos} (hc : PT X c (tT X.K W cf)) (ha : PSs X a (tS X.K W f)) (hb : PSs X b (tS X.K W g)) : PS X (.If c a b pos) (tS X.K W (sIf cf f g)) := by
  refine (ps_if hc ha hb).imp fun D σ H ⟨ρ, A, σD, r, e, o⟩ => ⟨ρ, A, σD, r, e, ?_⟩
  unfold sIf at o
  cases q : cf σD A with
  | none => rw [q] at o; exact o.elim
  | some z =>
    rw [q] at o
    cases z with
    | exc x A1 => exact fun ρ' H' c dx s rx => o ρ' H' σ c dx s (e.step r s) rx
    | val b A1 =>
      intro ρ1 H1 b' s rb
      cases (show b = b' from rb)
      cases b with
      | true => exact ⟨ρ1, A1, σD, s.rep, e.step r s, OkS.step s o⟩
      | false => exact ⟨ρ1, A1, σD, s.rep, e.step r s, OkS.step s o⟩

/-! ### targets -/
theorem OkG.step {is : List Nat} {r : Option (EnvD × AH)} {Q : St → Hp → Prop} (s : Step K ρ A H ρ' A' H') (h : OkG K is σ r ρ A H Q) : OkG K is σ r ρ' A' H' Q := by
  match r, h with
  | some (σ1, A1), h => exact fun a b c d e f g => h a b c (s.trans d) e f g
def tGt (K : PySem.W.Frag) (is : List Nat) (g : BG) : TG := fun v σ H Q => ∃ ρ A σD d, Rep K ρ A H ∧ RelEnv K ρ A H σD σ ∧ RelD K ρ A H d v ∧ OkG K is σ (g d σD A) ρ A H Q
def tGs (K : PySem.W.Frag) (is : List Nat) (g : BGs) : TGs := fun vs σ H Q => ∃ ρ A σD ds, Rep K ρ A H ∧ RelEnv K ρ A H σD σ ∧ RelDs K ρ A H ds vs ∧ OkG K is σ (g ds σD A) ρ A H Q
theorem _root_.L2.PG.imp {e : Expr} {t t' : TG} (h : PG X e t) (m : ∀ v σ H Q, t' v σ H Q → t v σ H Q) : PG X e t' := ⟨fun pins s σ H v u Q I r w => h.run pins s σ H v u Q I r (m _ _ _ _ w)⟩
theorem _root_.L2.PGs.imp {e : List Expr} {t t' : TGs} (h : PGs X e t) (m : ∀ v σ H Q, t' v σ H Q → t v σ H Q) : PGs X e t' := ⟨fun pins s σ H v u Q I r w => h.run pins s σ H v u Q I r (m _ _ _ _ w)⟩
theorem g_name {i : Nat} {x : Str} {pos : Pos} (hN : X.N.Nodup) (hi : X.N[i]? = some x) (hx : Loc X.env.scope x) (hf : X.fn x = true ∨ X.env.scope.names.lookup x = some .local) : PG X (.Name x pos) (tGt X.K [i] (gNm i)) :=
  (pg_name hN hi hx hf).imp fun v σ H Q ⟨ρ, A, σD, d, r, e, rd, o⟩ => o ρ H _ (Step.refl r) (e.set rd) (by simp) fun j hj => by
    rw [List.getElem?_set_ne]; intro z; exact hj (by simp [z])
theorem gs_nil : PGs X [] (tGs X.K [] gNl) := pgs_nil.imp fun v σ H Q ⟨ρ, A, σD, ds, r, e, rd, o⟩ => by
  cases ds with
  | nil => cases rd; exact ⟨rfl, o ρ H _ (Step.refl r) e rfl fun _ _ => rfl⟩
  | cons _ _ => exact o.elim
theorem gs_cons {is js : List Nat} {e : Expr} {es : List Expr} {g : BG} {h : BGs} (h1 : PG X e (tGt X.K is g)) (h2 : PGs X es (tGs X.K js h))
    (hs : (assignEach (e :: es) X.env).map (·.2) = assign e X.env :: (assignEach es X.env).map (·.2) := by rfl) : PGs X (e :: es) (tGs X.K (is ++ js) (gCs g h)) := by
  refine (pgs_cons h1 h2 hs).imp fun vs σ H Q ⟨ρ, A, σD, ds, r, e, rd, o⟩ => ?_
  cases ds with
  | nil => exact o.elim
  | cons d rest =>
    obtain ⟨v, w, rfl, ra, rb⟩ := rd
    refine ⟨v, w, rfl, ρ, A, σD, d, r, e, ra, ?_⟩
    unfold gCs at o
    simp only at o
    cases q : g d σD A with
    | none => rw [q] at o; exact o.elim
    | some z =>
      obtain ⟨σ1, A1⟩ := z
      rw [q] at o
      intro ρ1 H1 σ' s e1 hl hj
      refine ⟨ρ1, A1, σ1, rest, s.rep, e1, rb.step r s, ?_⟩
      have o1 : OkG X.K (is ++ js) σ (h rest σ1 A1) ρ1 A1 H1 Q := OkG.step s o
      cases q2 : h rest σ1 A1 with
      | none => rw [q2] at o1; exact o1.elim
      | some z2 =>
        obtain ⟨σ2, A2⟩ := z2
        rw [q2] at o1
        exact fun ρ2 H2 σ'' s2 e2 hl2 hj2 => o1 ρ2 H2 σ'' s2 e2 (hl2.trans hl) fun j hn => (hj2 j fun z => hn (List.mem_append_right _ z)).trans (hj j fun z => hn (List.mem_append_left _ z))
theorem g_tup {is : List Nat} {es : List Expr} {k : Nat} {g : BGs} {n : Nat} {pos : Pos} (hc : X.calm = true) (h : PGs X es (tGs X.K is g))
    (hn : (assignEach es X.env).length = n := by rfl) (hst : (assignEach es X.env).findIdx? (·.1) = none := by rfl) : PG X (.Tuple es k pos) (tGt X.K is (gTp n g)) := by
  refine (pg_tup hc h hn hst).imp fun v σ H Q ⟨ρ, A, σD, d, r, e, rd, o⟩ => ?_
  unfold gTp at o
  split at o
  · rename_i xs
    split at o
    · rename_i hl
      simp only [RelD, RelP] at rd
      obtain ⟨a, vs, rfl, hs, rp⟩ := rd
      exact ⟨a, vs, rfl, SqT.of hs, by rw [← rp.length]; exact hl, ρ, A, σD, _, r, e, RelDs.map rp, o⟩
    · exact o.elim
  · exact o.elim
theorem rAsg {is : List Nat} {f : BE} {g : BG} {D : Ends} (h : tS K W (sAsg f g) D σ H) : tAsg (tE K W f) (tGt K is g) D σ H := by
  refine tG.mono (rThen h) fun v H1 ⟨ρ1, A1, σD, d, r, e, rv, o⟩ => ⟨ρ1, A1, σD, d, r, e, rv, ?_⟩
  cases q : g d σD A1 with
  | none => rw [q] at o; exact o.elim
  | some z => obtain ⟨σ1, A2⟩ := z; rw [q] at o; exact fun a b c d e _ _ => o a b c d e
theorem s_asg {is : List Nat} {tg e : Expr} {f : BE} {g : BG} {pos : Pos} (he : PE X e (tE X.K W f)) (hg : PG X tg (tGt X.K is g)) (hs : swapsWithSole [tg] e pos.line X.env = pure false := by rfl) (hw : swappedStores [tg] e X.env = pure none := by rfl)
    (h1 : (assignEach [tg] X.env).map (·.2) = [assign tg X.env] := by rfl) : PS X (.Assign [tg] e pos) (tS X.K W (sAsg f g)) :=
  (ps_asg he hg hs hw h1).imp fun _ _ _ h => rAsg h
theorem s_set {i : Nat} {x : Str} {e : Expr} {f : BE} {pos pos' : Pos} (hN : X.N.Nodup) (hi : X.N[i]? = some x) (hx : Loc X.env.scope x) (hf : X.fn x = true ∨ X.env.scope.names.lookup x = some .local) (he : PE X e (tE X.K W f)) (hs : swapsWith e (some (.Name x pos')) pos.line X.env = pure false := by rfl) :
    PS X (.Assign [.Name x pos'] e pos) (tS X.K W (sSet f i)) := by
  refine (ps_set hN hi hx he hs hf).imp fun D σ H h => ?_
  refine tG.mono (rThen h) fun v H1 ⟨ρ1, A1, σD, d, r, e, rv, o⟩ => ?_
  exact o ρ1 H1 _ (Step.refl r) (e.set rv)

/-! ### what is walked -/
def RIt (K : PySem.W.Frag) : List Addr → AH → Hp → List P → It → Prop := fun ρ A H xs J =>
  ∀ ρ' A' H', Step K ρ A H ρ' A' H' → (∀ (i : Nat) (p : P), xs[i]? = some p → J.go i H' ∧ ∀ x H'', J.yld i H' x H'' → Step K ρ' A' H' ρ' A' H'' ∧ RelP K (Lv ρ' A') H'' p x) ∧ J.stop xs.length H'
abbrev BI := EnvD → M (List P)
def tI (K : PySem.W.Frag) (W : WX) (f : BI) : TI := fun σ H R => tG K W (RIt K) f σ H R
theorem _root_.L2.PI.imp {tg e : Expr} {t t' : TI} (h : PI X tg e t) (m : ∀ σ H Q, t' σ H Q → t σ H Q) : PI X tg e t' := ⟨fun pins s σ H Q I w => h.run pins s σ H Q I (m _ _ _ w)⟩

/-! ### for -/
def loopF (g : BG) (b : BS) : List P → EnvD → AH → Option SR
  | [], σ, A => some (.nx σ A)
  | x :: r, σ, A => match g (.p x) σ A with
    | none => none
    | some (σ1, A1) => match b σ1 A1 with
      | some (.nx σ2 A2) => loopF g b r σ2 A2
      | some (.ct σ2 A2) => loopF g b r σ2 A2
      | some (.bk σ2 A2) => some (.bk σ2 A2)
      | r => r
/-- a loop's end: the turns' end, then the else; a break skips it -/
def sForE (f : BI) (g : BG) (b u : BS) : BS := fun σ A => match f σ A with
  | none => none
  | some (.exc x A') => some (.exc x σ A')
  | some (.val xs A') => match loopF g b xs σ A' with
    | some (.nx σ2 A2) => u σ2 A2
    | some (.bk σ2 A2) => some (.nx σ2 A2)
    | r => r
def sFor (f : BI) (g : BG) (b : BS) : BS := sForE f g b sSkip
theorem s_forE {is : List Nat} {tg iter : Expr} {body orelse : List Stmt} {f : BI} {g : BG} {b u : BS} {pos : Pos} (C : Co X W) (hi : PI X tg iter (tI X.K W f)) (hg : PG X tg (tGt X.K is g)) (hb : PSs X body (tS X.K W b)) (ho : PSs X orelse (tS X.K W u))
    (hs : ∀ x, foldedSetIterable iter X.env x = pure x := by intro _; rfl) : PS X (.For tg iter body orelse pos) (tS X.K W (sForE f g b u)) := by
  refine (ps_forE C.hp C.calm hi hg hb ho hs).imp fun D σ H ⟨ρ, A, σD, r, e, o⟩ => ⟨ρ, A, σD, r, e, ?_⟩
  unfold sForE at o
  cases q : f σD A with
  | none => rw [q] at o; exact o.elim
  | some z =>
    rw [q] at o
    cases z with
    | exc x A1 => exact fun ρ' H' c dx s rx => o ρ' H' σ c dx s (e.step r s) rx
    | val xs A1 =>
      intro ρ1 H1 J s1 rj
      have o1 := OkS.step s1 o
      have e1 := e.step r s1
      -- the invariant: what is left of the loop computes to something that is wished
      refine ⟨fun i m σ H => m + i = xs.length ∧ ∃ ρ2 A2 σD, Step X.K ρ1 A1 H1 ρ2 A2 H ∧ RelEnv X.K ρ2 A2 H σD σ ∧ OkS X.K W D (match loopF g b (xs.drop i) σD A2 with
        | some (.nx σ2 A2) => u σ2 A2
        | some (.bk σ2 A2) => some (.nx σ2 A2)
        | r => r) ρ2 A2 H, ⟨xs.length, by simp, ρ1, A1, σD, Step.refl s1.rep, e1, o1⟩, ?_⟩
      rintro i m σ2 H2 ⟨hm, ρ2, A2, σD2, s2, e2, o2⟩
      obtain ⟨jg, js⟩ := rj ρ2 A2 H2 s2
      cases hx : xs[i]? with
      | none =>
        have hlen : xs.length ≤ i := List.getElem?_eq_none_iff.mp hx
        have hi : i = xs.length := by omega
        subst hi
        rw [List.drop_length] at o2
        exact .inl ⟨js, ρ2, A2, σD2, s2.rep, e2, o2⟩
      | some p =>
        have hlt := (List.getElem?_eq_some_iff.mp hx).1
        have hd : xs.drop i = p :: xs.drop (i + 1) := by
          rw [List.drop_eq_getElem_cons hlt]; congr 1; exact (List.getElem?_eq_some_iff.mp hx).2
        rw [hd] at o2
        unfold loopF at o2
        refine .inr ⟨(jg i p hx).1, fun σ H => ∃ ρ3 A3 σD, Step X.K ρ1 A1 H1 ρ3 A3 H ∧ RelEnv X.K ρ3 A3 H σD σ ∧ OkS X.K W D (match loopF g b (xs.drop (i + 1)) σD A3 with
          | some (.nx σ2 A2) => u σ2 A2
          | some (.bk σ2 A2) => some (.nx σ2 A2)
          | r => r) ρ3 A3 H, fun σ' H' h => ⟨m - 1, by omega, by omega, h⟩, fun x H3 hy => ?_⟩
        obtain ⟨s3, rx⟩ := (jg i p hx).2 x H3 hy
        refine ⟨ρ2, A2, σD2, .p p, s3.rep, e2.step s2.rep s3, rx, ?_⟩
        have o3 := OkS.step s3 o2
        cases qg : g (.p p) σD2 A2 with
        | none => rw [qg] at o3; exact o3.elim
        | some z =>
          obtain ⟨σD4, A4⟩ := z
          rw [qg] at o3
          intro ρ4 H4 σ4 s4 e4 _ _
          refine ⟨ρ4, A4, σD4, s4.rep, e4, ?_⟩
          have o4 := OkS.step s4 o3
          have s04 := (s2.trans s3).trans s4
          simp only at o4
          cases qb : b σD4 A4 with
          | none => rw [qb] at o4; exact o4.elim
          | some w =>
            rw [qb] at o4
            cases w with
            | nx σ5 A5 => exact fun ρ5 H5 σ' s5 e5 => ⟨ρ5, A5, σ5, s04.trans s5, e5, OkS.step s5 o4⟩
            | ct σ5 A5 => exact fun ρ5 H5 σ' s5 e5 => ⟨ρ5, A5, σ5, s04.trans s5, e5, OkS.step s5 o4⟩
            | bk σ5 A5 => exact o4
            | rt d A5 => exact o4
            | exc x σ5 A5 => exact o4
theorem s_for {is : List Nat} {tg iter : Expr} {body : List Stmt} {f : BI} {g : BG} {b : BS} {pos : Pos} (C : Co X W) (hi : PI X tg iter (tI X.K W f)) (hg : PG X tg (tGt X.K is g)) (hb : PSs X body (tS X.K W b))
    (hs : ∀ x, foldedSetIterable iter X.env x = pure x := by intro _; rfl) : PS X (.For tg iter body [] pos) (tS X.K W (sFor f g b)) := s_forE C hi hg hb ss_nil hs

/-! ### while -/
def whileN (c : BT) (b : BS) : Nat → EnvD → AH → Option SR
  | 0, _, _ => none
  | n + 1, σ, A => match c σ A with
    | none => none
    | some (.exc x A') => some (.exc x σ A')
    | some (.val false A1) => some (.nx σ A1)
    | some (.val true A1) => match b σ A1 with
      | some (.nx σ2 A2) => whileN c b n σ2 A2
      | some (.ct σ2 A2) => whileN c b n σ2 A2
      | some (.bk σ2 A2) => some (.nx σ2 A2)
      | r => r
open Classical in
/-- a while that comes to its end -/
noncomputable def sWhile (c : BT) (b : BS) : BS := fun σ A => if h : ∃ n, whileN c b n σ A ≠ none then whileN c b (choose h) σ A else none
theorem whileN_mono (c : BT) (b : BS) : ∀ (n m : Nat) (σ : EnvD) (A : AH), n ≤ m → whileN c b n σ A ≠ none → whileN c b m σ A = whileN c b n σ A
  | 0, _, _, _, _, h => absurd rfl h
  | n + 1, 0, _, _, h, _ => absurd h (by omega)
  | n + 1, m + 1, σ, A, hm, h => by
    unfold whileN at h ⊢
    cases q : c σ A with
    | none => rfl
    | some z =>
      rw [q] at h
      cases z with
      | exc x A' => rfl
      | val k A1 =>
        cases k with
        | false => rfl
        | true =>
          simp only at h ⊢
          cases q2 : b σ A1 with
          | none => rfl
          | some w =>
            rw [q2] at h
            cases w with
            | nx σ2 A2 => exact whileN_mono c b n m σ2 A2 (by omega) h
            | ct σ2 A2 => exact whileN_mono c b n m σ2 A2 (by omega) h
            | bk _ _ => rfl
            | rt _ _ => rfl
            | exc _ _ _ => rfl
theorem sWhile_eq {c : BT} {b : BS} {n : Nat} {σ : EnvD} {A : AH} {r : SR} (h : whileN c b n σ A = some r) : sWhile c b σ A = some r := by
  have ex : ∃ n, whileN c b n σ A ≠ none := ⟨n, by rw [h]; exact fun z => nomatch z⟩
  unfold sWhile
  rw [dif_pos ex]
  have h1 := Classical.choose_spec ex
  rcases Nat.le_total n (Classical.choose ex) with q | q
  · rw [whileN_mono c b n _ σ A q (by rw [h]; exact fun z => nomatch z)]; exact h
  · rw [← whileN_mono c b _ n σ A q h1]; exact h
theorem sWhile_get {c : BT} {b : BS} {σ : EnvD} {A : AH} {r : SR} (h : sWhile c b σ A = some r) : ∃ n, whileN c b n σ A = some r := by
  unfold sWhile at h
  split at h
  · exact ⟨_, h⟩
  · cases h
theorem s_while {c : Expr} {body : List Stmt} {cf : BT} {b : BS} {pos : Pos} (C : Co X W) (hc : PT X c (tT X.K W cf)) (hb : PSs X body (tS X.K W b)) : PS X (.While c body [] pos) (tS X.K W (sWhile cf b)) := by
  refine (ps_while C.hp hc hb).imp fun D σ H ⟨ρ, A, σD, r, e, o⟩ => ?_
  cases q : sWhile cf b σD A with
  | none => rw [q] at o; exact o.elim
  | some z =>
    rw [q] at o
    obtain ⟨n, hn⟩ := sWhile_get q
    refine ⟨fun m σ H => ∃ ρ2 A2 σD r, Rep X.K ρ2 A2 H ∧ RelEnv X.K ρ2 A2 H σD σ ∧ whileN cf b m σD A2 = some r ∧ OkS X.K W D (some r) ρ2 A2 H, ⟨n, ρ, A, σD, z, r, e, hn, o⟩, ?_⟩
    rintro m σ2 H2 ⟨ρ2, A2, σD2, z2, r2, e2, h2, o2⟩
    cases m with
    | zero => cases h2
    | succ m =>
      unfold whileN at h2
      refine ⟨ρ2, A2, σD2, r2, e2, ?_⟩
      cases q3 : cf σD2 A2 with
      | none => rw [q3] at h2; cases h2
      | some w =>
        rw [q3] at h2
        cases w with
        | exc x A3 => cases h2; exact fun ρ' H' c dx s rx => o2 ρ' H' σ2 c dx s (e2.step r2 s) rx
        | val k A3 =>
          intro ρ3 H3 k' s3 rk
          cases (show k = k' from rk)
          have e3 := e2.step r2 s3
          have o3 := OkS.step s3 o2
          cases k with
          | false => cases h2; exact o3 ρ3 H3 σ2 (Step.refl s3.rep) e3
          | true =>
            simp only at h2
            rw [if_pos rfl]
            refine ⟨fun σ H => ∃ ρ2 A2 σD r, Rep X.K ρ2 A2 H ∧ RelEnv X.K ρ2 A2 H σD σ ∧ whileN cf b m σD A2 = some r ∧ OkS X.K W D (some r) ρ2 A2 H, fun σ' H' h => ⟨m, by omega, h⟩, ρ3, A3, σD2, s3.rep, e3, ?_⟩
            cases q4 : b σD2 A3 with
            | none => rw [q4] at h2; cases h2
            | some w =>
              rw [q4] at h2
              cases w with
              | nx σ5 A5 => exact fun ρ5 H5 σ' s5 e5 => ⟨ρ5, A5, σ5, z2, s5.rep, e5, h2, OkS.step s5 o3⟩
              | ct σ5 A5 => exact fun ρ5 H5 σ' s5 e5 => ⟨ρ5, A5, σ5, z2, s5.rep, e5, h2, OkS.step s5 o3⟩
              | bk σ5 A5 => cases h2; exact o3
              | rt d A5 => cases h2; exact o3
              | exc x σ5 A5 => cases h2; exact o3
end
end PF

/-! text PG1 -/
set_option Elab.async false
set_option linter.all false
set_option maxRecDepth 100000
set_option maxHeartbeats 2000000
/-! PG1: promises of callees where no repr is under way. -/
namespace PF
open PySem L2 PySem.Spec PyProof.Rows
/-- room, and no repr under way -/
structure Room (k : Nat) (A : Around) : Prop extends L2.Room k A where
  gd : A.guards = some []
theorem Room.mono {j k : Nat} {A : Around} (r : Room k A) (h : j ≤ k) : Room j A := ⟨r.toRoom.mono h, r.gd⟩
theorem Room.deeper {k : Nat} {A : Around} (r : Room (k + 1) A) (env : Env) : Room k (A.deeper env) := ⟨r.toRoom.deeper env, r.gd⟩
theorem Room.in1 {k : Nat} {A : Around} (r : Room (k + 1) A) : Room k A.in1 := ⟨r.toRoom.in1, r.gd⟩
theorem Room.make {k : Nat} {A : Around} (r : Room (k + 1) A) (C : Addr) (us : List Value) (kw : List (Str × Value)) : Room k (A.under (.builtin "type.__call__" ⟨.ref C :: us, kw⟩)) :=
  ⟨r.toRoom.make C us kw, by first | exact r.gd | simpa [Around.under, Code.guards, Code.isGuard, guardIds, pushGuards] using r.gd⟩
theorem Room.depth {k : Nat} {A : Around} (r : Room k A) : A.depth < recursionLimit := r.toRoom.depth
theorem Room.units {k : Nat} {A : Around} (r : Room k A) : A.units + 64 < cLine := r.toRoom.units
theorem Room.units0 {k : Nat} {A : Around} (r : Room k A) : A.units < cLine := r.toRoom.units0

structure FnOk (P : Program) (w : World) (K : PySem.W.Frag) (mg : Str → Option Value) (base : Heap) (CX : CXT) (k : Nat) (f : Addr) (fd : FuncData) (ps : List Str) (sp : Sp) : Prop where
  len : ∀ vs H Q E, sp vs H Q E → vs.length = ps.length
  run : ∀ (A : Around) (outer : List Env) (s : Shared) (H : Hp) (args : Args) (us : List Value) (vs : List V) (Q : VK) (E : XK), Room k A → Env0 P w K mg base A outer s H → BindsTo s fd args (ps.zip us) → Vals vs us → sp vs H Q E →
    codeAny (model P w) A (.call (.ref f) args) (CR CX outer P w H s Q E) s
theorem FnOk.mono {P : Program} {w : World} {K : PySem.W.Frag} {mg : Str → Option Value} {base : Heap} {CX : CXT} {j k : Nat} {f : Addr} {fd : FuncData} {ps : List Str} {sp : Sp} (F : FnOk P w K mg base CX j f fd ps sp) (h : j ≤ k) :
    FnOk P w K mg base CX k f fd ps sp := ⟨F.len, fun A outer s H args us vs Q E hr => F.run A outer s H args us vs Q E (hr.mono h)⟩
theorem FnOk.imp {P : Program} {w : World} {K : PySem.W.Frag} {mg : Str → Option Value} {base : Heap} {CX : CXT} {k : Nat} {f : Addr} {fd : FuncData} {ps : List Str} {sp sp' : Sp} (F : FnOk P w K mg base CX k f fd ps sp)
    (h : ∀ vs H Q E, sp' vs H Q E → sp vs H Q E) : FnOk P w K mg base CX k f fd ps sp' :=
  ⟨fun vs H Q E q => F.len vs H Q E (h _ _ _ _ q), fun A outer s H args us vs Q E hr he hb hv hs => F.run A outer s H args us vs Q E hr he hb hv (h _ _ _ _ hs)⟩
def FnR (P : Program) (w : World) (K : PySem.W.Frag) (mg : Str → Option Value) (base : Heap) (CX : CXT) (k : Nat) (f : Addr) (sp : Sp) : Prop :=
  ∀ (A : Around) (outer : List Env) (s : Shared) (H : Hp) (us : List Value) (vs : List V) (Q : VK) (E : XK), Room k A → Env0 P w K mg base A outer s H → Vals vs us → sp vs H Q E →
    codeAny (model P w) A (.call (.ref f) ⟨us, []⟩) (CR CX outer P w H s Q E) s
section
variable {P : Program} {w : World} {K : PySem.W.Frag} {mg : Str → Option Value} {base : Heap} {CX : CXT} {j k : Nat} {f : Addr} {sp sp' : Sp}
theorem FnR.mono (F : FnR P w K mg base CX j f sp) (h : j ≤ k) : FnR P w K mg base CX k f sp := fun A outer s H us vs Q E hr => F A outer s H us vs Q E (hr.mono h)
theorem FnR.imp (F : FnR P w K mg base CX k f sp) (h : ∀ vs H Q E, sp' vs H Q E → sp vs H Q E) : FnR P w K mg base CX k f sp' := fun A outer s H us vs Q E hr e0 r hs => F A outer s H us vs Q E hr e0 r (h _ _ _ _ hs)
theorem FnOk.raw {fd : FuncData} {ps : List Str} {ds : List Value} {dvs : List V} (F : FnOk P w K mg base CX k f fd ps sp) (hb : Binds K fd ps ds) (hd : Vals dvs ds) :
    FnR P w K mg base CX k f (fun vs H Q E => sp (vs ++ dvs) H Q E) := by
  intro A outer s H us vs Q E hr e0 r hs
  have r2 : Vals (vs ++ dvs) (us ++ ds) := r.append hd
  have hl : (us ++ ds).length = ps.length := by rw [← r2.length]; exact F.len _ _ _ _ hs
  exact F.run A outer s H ⟨us, []⟩ (us ++ ds) (vs ++ dvs) Q E hr e0 (hb s us (e0.mod.kin.keeps fun b o e => (e0.bs b o e).1) hl) r2 hs
end
theorem fn_of {CX : CXT} {P : Program} {w : World} {K : PySem.W.Frag} {mg : Str → Option Value} {base : Heap} {k : Nat} {f : Addr} {name qual : Str} {params : Arguments} {body : List Stmt} {scope : Scope} {dV kV doc pm cdv ct oc : Value} {an od : Option Addr}
    {osl : Array (Option Value)} {N ps : List Str} {sp : Sp} (lk : K.lookup f = some ⟨oc, od, .func (PySem.W.fnOf name qual params body scope dV kV doc pm an cdv ct), osl⟩) (hcd : PySem.W.codeIn K cdv qual = true) (S : FnScope N ps scope)
    (len : ∀ vs H Q E, sp vs H Q E → vs.length = ps.length)
    (hbody : ∀ (A : Around) (outer : List Env) (s : Shared) (H : Hp) (vs : List V) (Q : VK) (E : XK), Room k (A.deeper (envOfC qual scope s.heap.objs.size f cdv)) → sp vs H Q E →
      ∃ t, PSs (cxOf CX P w K mg base N qual scope f cdv A outer s H E) body t ∧ t { nx := fun _ H' => Q .non H', rt := Q } (L2.start N vs) H) :
    FnOk P w K mg base CX (k + 1) f (PySem.W.fnOf name qual params body scope dV kV doc pm an cdv ct) ps sp := by
  refine ⟨len, fun A outer s H args us vs Q E hr e0 hb r hsp => ?_⟩
  have hl := len _ _ _ _ hsp
  have KX : K.In s.heap := e0.mod.kin.keeps fun b o e => (e0.bs b o e).1
  have lim : s.heap.NoLimit := e0.mod.nolimit.keeps fun b o e => (e0.bs b o e).1
  have hkind : ∀ y ∈ ps.zip us, scope.names.lookup y.1 = some .local ∨ (scope.names.lookup y.1 = some .cell ∧ ((cellsFrom (s.heap.objs.size + 1) scope.names []).lookup y.1).isSome = true) := fun ⟨n, v⟩ hy => by
    rcases S.par n (List.of_mem_zip hy).1 with q | q
    · exact .inl q
    · exact .inr ⟨q, PySem.W.cellsFrom_some _ _ _ (.inl q)⟩
  refine codeAny_call_function hr.depth (KX _ _ lk) rfl S.co S.gen rfl (PySem.W.codeRec_of KX hcd) (hb _ _ _ _ ?_)
  refine wpAny_newFunctionEnv_cells S.kind hkind fun env he s1 x => ?_
  subst he
  refine ⟨lim.keeps x.toInCall.keep, codeAny_func ?_⟩
  obtain ⟨t, ht, hq⟩ := hbody A outer s H vs Q E (hr.deeper _) hsp
  have I : Inv (cxOf CX P w K mg base N qual scope f cdv A outer s H E) [] (L2.start N vs) H s1 := inv_start S hr.hd e0 hl r x
  refine wpAny_mono (ht.run [] s1 (L2.start N vs) H _ I hq) (fun fl s' hs => ?_) fun e s' hs => hs
  have fin : ∀ {σ' : L2.St} {H' : Hp} {v : V} {u : Value}, Inv (cxOf CX P w K mg base N qual scope f cdv A outer s H E) [] σ' H' s' → RelV v u → Q v H' → CE outer P w H s Q u s' :=
    fun {σ' H' v u} J rv q => ⟨v, H', J.os, J.bare, J.base, J.hok, rv, q⟩
  cases fl with
  | ret u =>
    obtain ⟨v, σ', H', J, rv, q⟩ := hs
    exact fin J rv q
  | next =>
    obtain ⟨σ', H', J, q⟩ := hs
    exact fin (v := V.non) (u := Value.none) J rfl q
  | brk =>
    obtain ⟨_, _, _, q⟩ := hs
    exact False.elim q
  | cont =>
    obtain ⟨_, _, _, q⟩ := hs
    exact False.elim q
section
variable {P : Program} {w : World} {K : PySem.W.Frag} {mg : Str → Option Value} {base : Heap} {x qual : Str} {params : Arguments} {body : List Stmt} {scope : Scope} {dvs : List V} {kws : List (Str × V)} {f : Addr} {fd : FuncData}
theorem funD_ok {CX : CXT} {N ps : List Str} {k : Nat} {sp : Sp} (F : FunD K x qual params body scope dvs kws f fd) (S : FnScope N ps scope) (len : ∀ vs H Q E, sp vs H Q E → vs.length = ps.length)
    (hbody : ∀ (cdv : Value) (A : Around) (outer : List Env) (s : Shared) (H : Hp) (vs : List V) (Q : VK) (E : XK), Room k (A.deeper (envOfC qual scope s.heap.objs.size f cdv)) → sp vs H Q E →
      ∃ t, PSs (cxOf CX P w K mg base N qual scope f cdv A outer s H E) body t ∧ t { nx := fun _ H' => Q .non H', rt := Q } (L2.start N vs) H) : FnOk P w K mg base CX (k + 1) f fd ps sp := by
  obtain ⟨oc, od, dV, kV, doc, pm, an, cdv, ct, osl, rfl, lk, hcd, _, _⟩ := F.ex
  exact fn_of lk hcd S len fun A outer s H vs Q E hr hsp => hbody cdv A outer s H vs Q E hr hsp
end
section
variable {P : Program} {w : World} {K : PySem.W.Frag} {mg : Str → Option Value} {base : Heap}
theorem fun_okX {x qual : Str} {st : Stmt} {f : Addr} {fd : FuncData} {N ps : List Str} {k : Nat} {sp : Sp} (F : Fun K x qual st f fd) (S : FnScope N ps (defScope st)) (len : ∀ vs H Q E, sp vs H Q E → vs.length = ps.length)
    (hbody : ∀ (cdv : Value) (A : Around) (outer : List Env) (s : Shared) (H : Hp) (vs : List V) (Q : VK) (E : XK), Room k (A.deeper (envOfC qual (defScope st) s.heap.objs.size f cdv)) → sp vs H Q E →
      ∃ t, PSs (cxOf (L2.CX P w) P w K mg base N qual (defScope st) f cdv A outer s H E) (defBody st) t ∧ t { nx := fun _ H' => Q .non H', rt := Q } (L2.start N vs) H) : FnOk P w K mg base (L2.CX P w) (k + 1) f fd ps sp := by
  obtain ⟨oc, od, kV, doc, pm, an, cdv, ct, osl, rfl, lk, hcd⟩ := F.ex
  exact fn_of lk hcd S len fun A outer s H vs Q E hr hsp => hbody cdv A outer s H vs Q E hr hsp
end
section
variable {CX : CXT} {P : Program} {w : World} {K : PySem.W.Frag} {mg : Str → Option Value} {base : Heap} {k : Nat} {f : Addr} {name qual : Str} {params : Arguments} {body : List Stmt} {scope : Scope} {dV kV doc pm cdv ct oc : Value} {an od : Option Addr}
  {osl : Array (Option Value)} {N ps : List Str} {sp : Sp}
open StX
theorem run_bnd {A : Around} {outer : List Env} {s : Shared} {H : Hp} {args : Args} {Q : VK} {E : XK} {G : List V → Hp → Prop} (lk : K.lookup f = some ⟨oc, od, .func (PySem.W.fnOf name qual params body scope dV kV doc pm an cdv ct), osl⟩) (hcd : PySem.W.codeIn K cdv qual = true)
    (S : FnScope N ps scope) (hr : Room (k + 1) A) (e0 : Env0 P w K mg base A outer s H) (hb : Bnd CX P w K mg base (PySem.W.fnOf name qual params body scope dV kV doc pm an cdv ct) args ps A outer s H E G)
    (hbody : ∀ (s2 : Shared) (H2 : Hp) (vs : List V), G vs H2 → Room k (A.deeper (envOfC qual scope s2.heap.objs.size f cdv)) →
      ∃ t, PSs (cxOf CX P w K mg base N qual scope f cdv A outer s2 H2 E) body t ∧ t { nx := fun _ H' => Q .non H', rt := Q } (L2.start N vs) H2) : codeAny (model P w) A (.call (.ref f) args) (CR CX outer P w H s Q E) s := by
  have KX : K.In s.heap := e0.mod.kin.keeps fun b o e => (e0.bs b o e).1
  refine codeAny_call_function hr.depth (KX _ _ lk) rfl S.co S.gen rfl (PySem.W.codeRec_of KX hcd) ?_
  refine hb _ _ _ fun s2 H2 vs us e2 un ho hx r hl g => ?_
  have lim : s2.heap.NoLimit := e0.mod.nolimit.keeps fun b o e => (e2.bs b o e).1
  have hkind : ∀ y ∈ ps.zip us, scope.names.lookup y.1 = some .local ∨ (scope.names.lookup y.1 = some .cell ∧ ((cellsFrom (s2.heap.objs.size + 1) scope.names []).lookup y.1).isSome = true) := fun y hy => by
    rcases S.par y.1 (List.of_mem_zip hy).1 with q | q
    · exact .inl q
    · exact .inr ⟨q, PySem.W.cellsFrom_some _ _ _ (.inl q)⟩
  refine wpAny_newFunctionEnv_cells (s := s2) S.kind hkind fun env he s1 x => ?_
  subst he
  refine ⟨lim.keeps x.toInCall.keep, codeAny_func ?_⟩
  obtain ⟨t, ht, hq⟩ := hbody s2 H2 vs g (hr.deeper _)
  have I : Inv (cxOf CX P w K mg base N qual scope f cdv A outer s2 H2 E) [] (L2.start N vs) H2 s1 := inv_start S hr.hd e2 hl r x
  refine wpAny_mono (ht.run [] s1 _ _ _ I hq) (fun fl s' hs => ?_) fun e s' hs => ?_
  · have fin : ∀ {σ' : L2.St} {H' : Hp} {v' : V} {u' : Value}, Inv (cxOf CX P w K mg base N qual scope f cdv A outer s2 H2 E) [] σ' H' s' → RelV v' u' → Q v' H' → CE outer P w H s Q u' s' :=
      fun {σ' H' v' u'} J rv' q => ⟨v', H', J.os.trans ho, J.bare, un.trans J.base, J.hok, rv', q⟩
    cases fl with
    | ret u' =>
      obtain ⟨v', σ', H', J, rv', q⟩ := hs
      exact fin J rv' q
    | next =>
      obtain ⟨σ', H', J, q⟩ := hs
      exact fin (v' := V.non) (u' := Value.none) J rfl q
    | brk =>
      obtain ⟨_, _, _, q⟩ := hs
      exact False.elim q
    | cont =>
      obtain ⟨_, _, _, q⟩ := hs
      exact False.elim q
  · exact wpAny_mono hs (fun _ s'' z => hx e s'' z) fun e' s'' z => hx e' s'' z
theorem fn_star {pv : Str} (lk : K.lookup f = some ⟨oc, od, .func (PySem.W.fnOf name qual params body scope dV kV doc pm an cdv ct), osl⟩) (hcd : PySem.W.codeIn K cdv qual = true) (S : FnScope N (ps ++ [pv]) scope) (hCX : CXUp CX)
    (hb : ∀ us rest : List Value, us.length = ps.length → bindArgs (PySem.W.fnOf name qual params body scope dV kV doc pm an cdv ct) ⟨us ++ rest, []⟩ = (newTuple rest >>= fun t => pure (ps.zip us ++ [(pv, t)])))
    (hbody : ∀ (A : Around) (outer : List Env) (s : Shared) (H : Hp) (vs : List V) (Q : VK) (E : XK), Room k (A.deeper (envOfC qual scope s.heap.objs.size f cdv)) → sp vs H Q E →
      ∃ t, PSs (cxOf CX P w K mg base N qual scope f cdv A outer s H E) body t ∧ t { nx := fun _ H' => Q .non H', rt := Q } (L2.start N vs) H) :
    FnR P w K mg base CX (k + 1) f (fun vs H Q E => ∃ ws rest, vs = ws ++ rest ∧ ws.length = ps.length ∧ rest.length ≤ sizeLine ∧ ∀ p, H p = Option.none → sp (ws ++ [V.ref p]) (upd H p (.tup rest)) Q E) := by
  intro A outer s H us vs Q E hr e0 r hsp
  obtain ⟨ws, rest, ev, hl, hz, hq⟩ := hsp
  subst ev
  obtain ⟨u1, u2, eu, r1, r2⟩ := vals_split r
  subst eu
  have hn : H s.heap.objs.size = Option.none := e0.hok.fresh (Nat.le_refl _)
  have hl1 : u1.length = ps.length := by rw [← r1.length]; exact hl
  have hl2 : u2.length ≤ sizeLine := by rw [← r2.length]; exact hz
  refine run_bnd lk hcd S hr e0 (G := fun xs H2 => ∃ p, H p = Option.none ∧ xs = ws ++ [V.ref p] ∧ H2 = upd H p (.tup rest)) (fun A' Ex Q' h => ?_) fun s2 H2 xs ⟨p, hp, ex, eH⟩ hr' => ?_
  · rw [hb u1 u2 hl1]
    refine wpAny_bind (wpAny_newTuple (wpAny_pure ?_) hl2)
    have new : ObjOk P w (upd H s.heap.objs.size (.tup rest)) (s.heap.push ({ cls := .type "tuple", data := .seq u2.toArray } : Obj)) s.heap.objs.size (.tup rest) := ⟨hz, u2, r2, ⟨_, Heap.get?_push_size _ rfl, rfl, _, rfl⟩⟩
    have un := un_laid (fs := frs outer) (s := s) (o := ({ cls := .type "tuple", data := .seq u2.toArray } : Obj)) (u := .tup rest) hn
    have z := h _ _ (ws ++ [V.ref s.heap.objs.size]) (u1 ++ [Value.ref s.heap.objs.size]) (env0_laid e0 new) un rfl (fun e s' => hCX outer s H _ _ E e s' un (fun b o q => Heap.get?_push_of_some _ q) rfl) (r1.append (.cons rfl .nil))
      (by rw [List.length_append, List.length_append, hl] <;> rfl) ⟨_, hn, rfl, rfl⟩
    rw [List.zip_append hl1.symm] at z
    exact z
  · subst ex eH
    exact hbody A outer s2 _ _ Q E hr' (hq p hp)
end
section
variable {X : Cx} {CX : CXT} {k : Nat} {f : Addr} {fd : FuncData} {ps : List Str} {sp : Sp} {dvs : List V} {ds : List Value} {E : L2.St → XK} {x : Str} {p pos : Pos} {e : Expr} {es : List Expr} {t : TA}
theorem run_fnSD {pins : List (Addr × Obj)} {σ : L2.St} {H : Hp} {s : Shared} {Q : VK} {us : List Value} {vs : List V} (F : FnOk X.prog X.w X.K X.mg X.base CX k f fd ps sp) (hr : Room k X.A) (hb : Binds X.K fd ps ds) (hd : Vals dvs ds) (hx : PassesAt CX X σ (E σ))
    (I : Inv X pins σ H s) (r : Vals vs us) (h : sp (vs ++ dvs) H Q (E σ)) : wpAny (model X.prog X.w) X.A (call (.ref f) us) (EP X pins σ Q) X.xe s := by
  have r2 : Vals (vs ++ dvs) (us ++ ds) := r.append hd
  have hl : (us ++ ds).length = ps.length := by rw [← r2.length]; exact F.len _ _ _ _ h
  refine wpAny_call (codeAny_mono (F.run X.A X.stack s H ⟨us, []⟩ (us ++ ds) (vs ++ dvs) Q (E σ) hr I.env0 (hb s us I.kIn hl) r2 h) fun r s' hq => ?_)
  cases r with
  | error e => exact hx pins H s e s' I hq
  | ok fl =>
    cases fl with
    | ret u => exact I.after hq
    | next => exact False.elim hq
    | brk => exact False.elim hq
    | cont => exact False.elim hq
theorem pe_callSD (F : FnOk X.prog X.w X.K X.mg X.base CX k f fd ps sp) (hr : Room k X.A) (hg : Gl X x) (hm : X.mg x = some (.ref f)) (hk : PySem.W.keepIn X.K (.ref f) = true) (hb : Binds X.K fd ps ds) (hd : Vals dvs ds) (hx : ∀ σ, PassesAt CX X σ (E σ))
    (ha : PA X (e :: es) t) (hdb : (x == ("__debug__" : Str)) = false := by decide) (he : starEach (e :: es) X.env = (false, eval e X.env) :: starEach es X.env := by rfl) (hpl : (backTo pos (starEach es X.env)).any (·.1) = false := by rfl) :
    PE X (.Call (.Name x p) (e :: es) [] pos) (tCallSD sp dvs E t) := by
  refine ⟨fun pins s σ H Q I h => ?_⟩
  refine wpAny_Call_Name_kw (ld_glob I hg hm ?_ hdb)
  refine PySem.W.callWith_K (h₀ := X.base) I.ok.mod.kin hk (thn (ha.run pos pins s σ H _ I h) fun us s1 ⟨vs, H1, I1, r, q⟩ => ⟨I1.kIn, ?_⟩) he hpl
  exact run_fnSD F hr hb hd (hx σ) I1 r q
end
section
variable {X : Cx} {CX : CXT} {k : Nat} {C p g a dx : Addr} {fs : List (Str × V)} {f : Str} {fd : FuncData} {ps : List Str} {sp : Sp} {dvs : List V} {ds : List Value} {E : XK} {e : Expr} {pos : Pos} {ta : TE}
theorem getprop_ok {pins : List (Addr × Obj)} {σ : L2.St} {H : Hp} {s : Shared} {Q : VK} {b : Bool} {E' : Value → Shared → Prop} (I : Inv X pins σ H s) (ea : H a = some (.ins C dx fs)) (c : Cls X.K C) (hp : PropOf X.K C f p g)
    (F : FnOk X.prog X.w X.K X.mg X.base CX k g fd ps sp) (hr : Room (k + 1) X.A) (hb : Binds X.K fd ps ds) (hd : Vals dvs ds) (hx : Passes CX X.nox E) (h : sp (.ref a :: dvs) H Q E) :
    wpAny (model X.prog X.w) X.A (getAttr (.ref a) f b) (EP X pins σ Q) E' s := by
  obtain ⟨mA, O, _, _, _, _⟩ := ins_get I.hok ea
  obtain ⟨od, J, _⟩ := O.look
  obtain ⟨rest, hrec⟩ := hp.rec_
  have I1 := I.tok (s.toks + 1)
  have hl : ([Value.ref a] ++ ds).length = ps.length := by
    rw [← F.len _ _ _ _ h]
    show ds.length + 1 = dvs.length + 1
    rw [hd.length]
  have hc : (PySem.W.clsIn X.K C).isSome = true := by
    obtain ⟨cd, hc, _⟩ := PySem.W.any_some c.hd
    rw [hc]
    rfl
  refine PySem.W.get_bind I.kIn J (PySem.W.plainGet_of (c.get f)).1 (PySem.W.findObj_data hc hp.at_ hp.get hp.tak) (PySem.W.plainGet_of (c.get f)).2 (wpAny_call (PySem.W.prop_get (s := { s with toks := s.toks + 1 }) I.kIn hrec ?_))
  refine codeAny_mono (F.run X.A.in1 X.stack { s with toks := s.toks + 1 } H ⟨[.ref a], []⟩ (.ref a :: ds) (.ref a :: dvs) Q E hr.in1 I1.env0.in1 (hb _ [.ref a] I1.kIn hl) (.cons rfl hd) h) fun r s' hq => ?_
  cases r with
  | error er => exact False.elim (hx pins σ H { s with toks := s.toks + 1 } er s' (I1.wish _) hq)
  | ok fl =>
    cases fl with
    | ret u =>
      obtain ⟨v, H', I3, rv, q3⟩ := I1.after hq
      show wpAny _ _ (handedOut u) _ _ _
      rw [PySem.W.handedOut_of (handed_of rv)]
      exact wpAny_pure ⟨v, H', I3, rv, q3⟩
    | next => exact False.elim hq
    | brk => exact False.elim hq
    | cont => exact False.elim hq
theorem pe_prop (he : PE X e ta) (c : Cls X.K C) (hp : PropOf X.K C f p g) (F : FnOk X.prog X.w X.K X.mg X.base CX k g fd ps sp) (hr : Room (k + 1) X.A) (hb : Binds X.K fd ps ds) (hd : Vals dvs ds) (hx : Passes CX X.nox E)
    (hab : attributeBase e f X.env (eval e X.env) = eval e X.env) : PE X (.Attribute e f pos) (tProp C sp dvs E ta) := by
  refine ⟨fun pins s σ H Q I h => ?_⟩
  refine attr_of hab (thn (he.run pins s σ H _ I h) fun u s1 ⟨x, H1, I1, rx, a, dx, fs, ex, ea, q⟩ => ?_)
  subst ex
  obtain rfl : u = Value.ref a := rx
  exact getprop_ok I1 ea c hp F hr hb hd hx q
end
theorem law_call {P : Program} {w : World} {K : PySem.W.Frag} {mg mb : Str → Option Value} {CX : CXT} {k : Nat} {fa a : Addr} {fd : FuncData} {x : Str} {sp : Sp} {s₁ : Shared} {vs : List Value} {ns : List Int}
    (KX : K.In s₁.heap) (hns : s₁.heap.Ns mainGlobals mg) (hb : s₁.heap.Ns builtinsNs mb) (hbb : ∀ x : Str, x ≠ "__name__" → mb x = bootBuiltins x) (hlim : s₁.heap.NoLimit) (hg : s₁.gens = #[])
    (ha : s₁.heap.get? a = some { cls := .type "list", data := .seq vs.toArray }) (hi : IntsAre vs ns) (hl : ns.length ≤ sizeLine) (hr : Room k callerA)
    (F : ∀ base : Heap, K.In base → base.Ns mainGlobals mg → FnOk P w K mg base CX k fa fd [x] sp) (hbind : ∀ (s : Shared) (u : Value), BindsTo s fd ⟨[u], []⟩ [(x, u)])
    (hsp : ∀ H : Hp, Only H → SqL K H a (ns.map V.int) → sp [.ref a] H (fun v _ => v = .bl true) fun _ _ _ => False)
    (hCX : ∀ H e s', CX [] H s₁ (fun _ _ _ => False) e s' → False) :
    codeAny (model P w) callerA (.call (.ref fa) ⟨[.ref a], []⟩) (fun r s' => r = .ok (.ret (.bool true)) ∧ OldK s₁.heap s'.heap ∧ s'.os = s₁.os ∧ AllBare s'.gens) s₁ := by
  have rv := vals_ints hi
  have lenV := hi.length
  -- from an abstract heap in which nothing but the script may be tracked
  have core : ∀ H : Hp, Only H → SqL K H a (ns.map V.int) → HOk P w H s₁.heap → (∀ b, H b ≠ none → b = a) → (H a ≠ none → K.lookup a = none) →
      codeAny (model P w) callerA (.call (.ref fa) ⟨[.ref a], []⟩) (fun r s' => r = .ok (.ret (.bool true)) ∧ OldK s₁.heap s'.heap ∧ s'.os = s₁.os ∧ AllBare s'.gens) s₁ := by
    intro H hO hS hok hA hK
    have base_of : ∀ {b : Addr} {o : Obj}, s₁.heap.get? b = some o → H b = none → (hidT s₁.heap H).get? b = some o := fun e n => hidT_get e n
    have noA : ∀ {b : Addr} {o : Obj} {es : Array DictEntry} {ep : Nat}, s₁.heap.get? b = some o → o.data = .dict es ep → H b = none := fun {b o es ep} e d => by
      cases q : H b with
      | none => rfl
      | some u =>
        have e' : b = a := hA b (by rw [q]; simp)
        subst e'
        rw [ha] at e; cases e
        have d' : Data.seq vs.toArray _ = Data.dict es ep := d
        cases d'
    have nsK : ∀ {b : Addr} {m : Str → Option Value}, s₁.heap.Ns b m → (hidT s₁.heap H).Ns b m := fun {b m} ⟨o, es, ep, e, d, r⟩ => ⟨o, es, ep, base_of e (noA e d), d, r⟩
    have hKb : K.In (hidT s₁.heap H) := fun b o e => base_of (KX b o e) (by
      cases q : H b with
      | none => rfl
      | some u =>
        have e' : b = a := hA b (by rw [q]; simp)
        subst e'
        rw [hK (by rw [q]; simp)] at e; cases e)
    have hM : Mod K mg (hidT s₁.heap H) := ⟨hKb, nsK hns, ⟨mb, nsK hb, hbb⟩, let ⟨mc, h1, h2⟩ := hlim; ⟨mc, nsK h1, h2⟩⟩
    have e0 : Env0 P w K mg (hidT s₁.heap H) callerA [] s₁ H := ⟨rfl, hM, fun b o e => of_hidT e, Nat.le_of_eq (hidT_size _ _), trivial, fun b hb => absurd (show b ∈ ([] : List Addr) from hb) (by simp), hok, .of_eq hg⟩
    refine codeAny_mono ((F _ hKb (nsK hns)).run callerA [] s₁ H ⟨[.ref a], []⟩ [.ref a] [.ref a] _ _ hr e0 (hbind s₁ (.ref a)) (.cons rfl .nil) (hsp H hO hS)) fun r s' h => ?_
    cases r with
    | error e => exact (hCX H e s' h).elim
    | ok fl =>
      cases fl with
      | next => exact False.elim h
      | brk => exact False.elim h
      | cont => exact False.elim h
      | ret u =>
        obtain ⟨v, H', os, bare, un, hok', r', q⟩ := h
        have q' : v = .bl true := q
        subst q'
        obtain rfl : u = Value.bool true := r'
        refine ⟨rfl, OldK.of_keep fun b o e => ?_, os, bare⟩
        cases q : H b with
        | none => exact un.keep b o e q (by intro z; exact absurd (show b ∈ ([] : List Addr) from z) (by simp)) (by simp)
        | some u =>
          rcases hO b with z | ⟨ob, xs, z⟩
          · rw [q] at z; cases z
          · have z2 := un.frzs b ob _ z
            obtain ⟨e1, _⟩ := hok b _ z
            obtain ⟨e2, _⟩ := hok' b _ z2
            rw [e] at e1; cases e1
            exact e2
  cases hk : K.lookup a with
  | some o =>
    -- the script is one of the module's own objects
    have e := KX a o hk
    rw [ha] at e
    cases e
    refine core (fun _ => none) (fun _ => .inl rfl) (.inr ⟨_, vs.toArray, _, hk, rfl, rfl, rfl, by rw [List.size_toArray, lenV]; exact hl, by simpa using rv⟩) (fun b u z => by have z' : (none : Option HO) = some u := z; cases z') (fun b z => absurd rfl z) fun z => absurd rfl z
  | none =>
    refine core (fun b => if b = a then some (.frz { cls := .type "list", data := .seq vs.toArray } (.lst (ns.map V.int))) else none) (fun b => ?_) (.inl (.inr ⟨{ cls := .type "list", data := .seq vs.toArray }, if_pos rfl⟩)) (fun b u z => ?_) (fun b z => ?_) fun _ => hk
    · by_cases hb : b = a
      · exact .inr ⟨_, _, if_pos hb⟩
      · exact .inl (if_neg hb)
    · by_cases hb : b = a
      · have z' := (if_pos hb).symm.trans z
        cases z'
        subst hb
        exact ⟨ha, by rw [List.length_map]; exact hl, vs, _, rv, ha⟩
      · have z' := (if_neg hb).symm.trans z
        cases z'
    · by_cases hb : b = a
      · exact hb
      · exact absurd (if_neg hb) z
theorem walk_of {l : PySem.W.OpenLaw} {n k : Nat} {q : Program} {loose : List Str} {XP : (Str → Option Value) → Heap → Prop} {YP : World → Heap → Prop} {d : DefRec} {K : Params → PySem.W.Frag} {CX : World → CXT} {sp : World → Sp} {x : Str}
    (hn : l.most = some n) (hn2 : n ≤ sizeLine) (hdf : d.params.defaults = []) (hr : Room k callerA)
    (hY : ∀ (w : World) (h : Heap), YP w h → (K w.params).In h)
    (F : ∀ (w : World) (mg : Str → Option Value) (fa : Addr) (h : Heap), (K w.params).In h → h.Ns mainGlobals mg → mg d.name = some (.ref fa) →
      ∃ fd : FuncData, (∀ (s : Shared) (u : Value), BindsTo s fd ⟨[u], []⟩ [(x, u)]) ∧
        ∀ base : Heap, (K w.params).In base → base.Ns mainGlobals mg → FnOk l.prog w (K w.params) mg base (CX w) k fa fd [x] (sp w))
    (hsp : ∀ (w : World) (H : Hp) (a : Addr) (ns : List Int), ns.length ≤ n → Only H → SqL (K w.params) H a (ns.map V.int) → sp w [.ref a] H (fun v _ => v = .bl true) fun _ _ _ => False)
    (hCX : ∀ (w : World) (H : Hp) (s : Shared) (e : Value) (s' : Shared), CX w [] H s (fun _ _ _ => False) e s' → False) :
    PySem.W.WalkO q loose XP YP l.row.toRowW d [] (fun f vs => PySem.call f vs) := by
  refine Att.attach_call hn hdf fun w s₀ s₁ mg mb fa o pm cd doc a vs ns G Y ho hd hcd hmg hobj hints hlen hg => ?_
  have KX := hY w _ Y
  obtain ⟨fd, hb, hF⟩ := F w mg fa _ KX G.T.g hmg
  exact law_call KX G.T.g G.T.b G.T.builtins G.T.nolimit hg hobj hints (Nat.le_trans hlen hn2) hr hF hb (fun H hO hS => hsp w H a ns hlen hO hS) fun H e s' => hCX w H s₁ e s'
end PF

/-! text PF4 -/
set_option Elab.async false
set_option linter.all false
set_option maxRecDepth 100000
/-! PF4: defs and calls. -/
namespace PF
open PySem L2 PySem.Spec PyProof.Rows
abbrev St := L2.St

/-! ### freezing -/
def frozen : AO → P
  | .lst xs => .lst xs
  | .dic t kvs => .dic t kvs
  | .ins C fs => .obj C fs
def frzD : D → M D
  | .p x => M.ret (.p x)
  | .ref i => fun A => match A[i]? with
    | some (some o) => some (.val (.p (frozen o)) (A.set i none))
    | _ => none
def bFrz (f : BE) : BE := fun σ => (f σ).bind frzD
/-- a slot's object is frozen -/
def sFrz (i : Nat) : BS := fun σ A => match σ[i]? with
  | some (some d) => match frzD d A with
    | some (.val d' A') => some (.nx (σ.set i (some d')) A')
    | _ => none
  | _ => none
section
variable {X : Cx} {W : WX} {K : PySem.W.Frag} {ρ ρ' : List Addr} {A A' : AH} {H H' : Hp} {σ : St} {σD : EnvD} {Dn : Ends}
theorem RelAO.frozen {o : AO} {p : Addr} {L : Addr → Prop} (r : RelAO K L H o (H p)) (n : ¬ L p) : RelP K L H (frozen o) (.ref p) := by
  cases o with
  | lst xs =>
    obtain ⟨vs, e, q⟩ := r
    simp only [PF.frozen, RelP]
    exact ⟨p, vs, rfl, n, e, q⟩
  | dic t kvs =>
    simp only [PF.frozen, RelP]
    rcases r with ⟨z, l, e, q⟩ | ⟨z, l, e, q⟩
    · exact ⟨p, rfl, n, .inl ⟨z, l, .inl e, q⟩⟩
    · exact ⟨p, rfl, n, .inr ⟨z, l, .inl e, q⟩⟩
  | ins C fs =>
    obtain ⟨dx, vs, e, q⟩ := r
    simp only [PF.frozen, RelP]
    exact ⟨p, dx, vs, rfl, n, e, q⟩
theorem frz_step (r : Rep K ρ A H) {d d' : D} {v : V} (rd : RelD K ρ A H d v) (h : frzD d A = some (.val d' A')) : Step K ρ A H ρ A' H ∧ RelD K ρ A' H d' v := by
  cases d with
  | p x => cases h; exact ⟨Step.refl r, rd⟩
  | ref i =>
    obtain ⟨p, hp, rfl⟩ := rd
    unfold frzD at h
    cases q : A[i]? with
    | none => simp only [q] at h; cases h
    | some o0 =>
      cases o0 with
      | none => simp only [q] at h; cases h
      | some o =>
        simp only [q] at h
        cases h
        have s := Step.die r i
        refine ⟨s, ?_⟩
        have ro := r.obj i p o hp q
        exact RelAO.frozen (RelAO.keep s.keep s.noL r.tup ro) (Step.die_notL r hp q)
theorem frz_noexc {d : D} {x : Exc} : frzD d A ≠ some (.exc x A') := by
  cases d with
  | p x => exact fun h => by cases h
  | ref i =>
    show (match A[i]? with
      | some (some o) => some (Res.val (D.p (frozen o)) (A.set i none))
      | _ => none) ≠ _
    split
    · exact fun h => by cases h
    · exact fun h => by cases h
theorem e_frz {e : Expr} {f : BE} (h : PE X e (tE X.K W f)) : PE X e (tE X.K W (bFrz f)) := by
  refine h.imp fun σ H Q h => tG.mono (tG.bind (f := f) (g := fun _ => frzD) h) fun v H1 ⟨ρ1, A1, σD, d, r, e, rd, o⟩ => ?_
  cases q : frzD d A1 with
  | none => rw [q] at o; exact o.elim
  | some z =>
    rw [q] at o
    cases z with
    | exc x A2 => exact absurd q frz_noexc
    | val d' A2 =>
      obtain ⟨s, rd'⟩ := frz_step r rd q
      exact o ρ1 H1 v s rd'
theorem RelEnv.ghost (e : RelEnv K ρ A H σD σ) {i : Nat} {d : D} {v : V} (hv : σ[i]? = some (some v)) (r : RelD K ρ A H d v) : RelEnv K ρ A H (σD.set i (some d)) σ := by
  refine ⟨by simp [e.1], fun j d' h => ?_⟩
  by_cases hj : j = i
  · subst hj
    by_cases hl : j < σD.length
    · rw [List.getElem?_set_self hl] at h; cases h
      exact ⟨v, hv, r⟩
    · rw [List.getElem?_eq_none (by simpa using hl)] at h; cases h
  · rw [List.getElem?_set_ne (Ne.symm hj)] at h
    exact e.2 j d' h
theorem ss_frz {i : Nat} {sts : List Stmt} {f : BS} (h : PSs X sts (tS X.K W f)) : PSs X sts (tS X.K W (sSeq (sFrz i) f)) := by
  refine h.imp fun D σ H ⟨ρ, A, σD, r, e, o⟩ => ?_
  unfold sSeq sFrz at o
  cases q : σD[i]? with
  | none => rw [q] at o; exact o.elim
  | some z =>
    cases z with
    | none => rw [q] at o; exact o.elim
    | some d =>
      obtain ⟨v, hv, rd⟩ := e.2 i d q
      rw [q] at o
      simp only at o
      cases q2 : frzD d A with
      | none => rw [q2] at o; exact o.elim
      | some w =>
        rw [q2] at o
        cases w with
        | exc x A2 => exact absurd q2 frz_noexc
        | val d' A2 =>
          obtain ⟨s, rd'⟩ := frz_step r rd q2
          exact ⟨ρ, A2, σD.set i (some d'), s.rep, (e.step r s).ghost hv rd', OkS.step s o⟩
end

/-! ### what a def computes -/
abbrev BF := List D → AH → Option (Res D)
def OkF (K : PySem.W.Frag) (r : Option (Res D)) (ρ : List Addr) (A : AH) (H : Hp) (Q : VK) (E : XK) : Prop := OkE K (fun c d _ H => E c d H) (RelD K) r ρ A [] H Q
/-- the def at n parameters computes F -/
def spF (K : PySem.W.Frag) (n : Nat) (F : BF) : Sp := fun vs H Q E => vs.length = n ∧ ∃ ρ A ds, Rep K ρ A H ∧ RelDs K ρ A H ds vs ∧ OkF K (F ds A) ρ A H Q E
def startD (n : Nat) (ds : List D) : EnvD := ds.map some ++ List.replicate (n - ds.length) none
/-- a call's end: its own objects are forgotten, but for the one handed back -/
def fin (n : Nat) (d : D) (A' : AH) : Option (Res D) := match d with
  | .p x => some (.val (.p x) (A'.take n))
  | .ref i => if i < n then some (.val (.ref i) (A'.take n)) else match A'[i]? with
    | some (some o) => some (.val (.ref n) (A'.take n ++ [some o]))
    | _ => none
def mkF (n : Nat) (b : BS) : BF := fun ds A => match b (startD n ds) A with
  | some (.rt d A') => fin A.length d A'
  | some (.nx _ A') => some (.val (.p .non) (A'.take A.length))
  | some (.exc x _ A') => some (.exc x (A'.take A.length))
  | _ => none
section
variable {K : PySem.W.Frag} {ρ ρ' : List Addr} {A A' : AH} {H H' : Hp}
theorem RelDs.length : ∀ {ds : List D} {vs : List V}, RelDs K ρ A H ds vs → ds.length = vs.length
  | [], _, h => by cases h; rfl
  | d :: r, _, ⟨v, w, e, _, h⟩ => by subst e; simp [RelDs.length h]
theorem RelDs.get : ∀ {ds : List D} {vs : List V} {i : Nat} {d : D}, RelDs K ρ A H ds vs → ds[i]? = some d → ∃ v, vs[i]? = some v ∧ RelD K ρ A H d v
  | [], _, _, _, _, h => by simp at h
  | x :: r, _, 0, d, ⟨v, w, e, a, _⟩, h => by subst e; simp at h; subst h; exact ⟨v, rfl, a⟩
  | x :: r, _, i + 1, d, ⟨v, w, e, _, b⟩, h => by
    subst e
    obtain ⟨u, h1, h2⟩ := RelDs.get (i := i) b (by simpa using h)
    exact ⟨u, by simpa using h1, h2⟩
theorem env_start {N : List Str} {ds : List D} {vs : List V} (h : RelDs K ρ A H ds vs) : RelEnv K ρ A H (startD N.length ds) (L2.start N vs) := by
  have hl := RelDs.length h
  refine ⟨by simp [startD, L2.start, hl], fun i d e => ?_⟩
  unfold startD at e
  unfold L2.start
  by_cases hi : i < ds.length
  · rw [List.getElem?_append_left (by simpa using hi), List.getElem?_map] at e
    cases q : ds[i]? with
    | none => rw [q] at e; cases e
    | some d' =>
      rw [q] at e; cases e
      obtain ⟨v, h1, h2⟩ := RelDs.get h q
      exact ⟨v, by rw [List.getElem?_append_left (by simpa [← hl] using hi), List.getElem?_map, h1]; rfl, h2⟩
  · rw [List.getElem?_append_right (by simpa using hi), List.getElem?_replicate] at e
    split at e <;> cases e
/-- the youngest objects are forgotten but for one, which comes next -/
theorem Step.one (s : Step K ρ A H ρ' A' H') {i : Nat} {p : Addr} {o : AO} (hi : ρ.length ≤ i) (hp : ρ'[i]? = some p) (ho : A'[i]? = some (some o)) :
    Step K ρ A H (ρ'.take ρ.length ++ [p]) (A'.take ρ.length ++ [some o]) H' := by
  have s0 := s.trunc ρ.length (Nat.le_refl _)
  have hr := s.rep
  have tk : ∀ {α : Type} {l : List α} {j : Nat} {x : α}, (l.take ρ.length)[j]? = some x → l[j]? = some x ∧ j < ρ.length := fun {α l j x} h => by
    rw [List.getElem?_take] at h; split at h
    · rename_i hlt; exact ⟨h, hlt⟩
    · cases h
  have hl1 : (ρ'.take ρ.length).length = ρ.length := by
    have := (List.getElem?_eq_some_iff.mp hp).1
    rw [List.length_take]; omega
  have hl2 : (A'.take ρ.length).length = ρ.length := by
    have := (List.getElem?_eq_some_iff.mp ho).1
    rw [List.length_take]; omega
  have at_ : ∀ {j : Nat} {b : Addr} {u : AO}, (ρ'.take ρ.length ++ [p])[j]? = some b → (A'.take ρ.length ++ [some o])[j]? = some (some u) → (j < ρ.length ∧ ρ'[j]? = some b ∧ A'[j]? = some (some u)) ∨ (j = ρ.length ∧ b = p ∧ u = o) := fun {j b u} h1 h2 => by
    rcases getElem?_snoc h1 with g1 | ⟨g1, g2⟩
    · rcases getElem?_snoc h2 with g3 | ⟨g3, g4⟩
      · exact .inl ⟨(tk g1).2, (tk g1).1, (tk g3).1⟩
      · have := (List.getElem?_eq_some_iff.mp g1).1; omega
    · rcases getElem?_snoc h2 with g3 | ⟨g3, g4⟩
      · have := (List.getElem?_eq_some_iff.mp g3).1; omega
      · exact .inr ⟨by omega, g2, by cases g4; rfl⟩
  have lv : ∀ a, Lv (ρ'.take ρ.length ++ [p]) (A'.take ρ.length ++ [some o]) a → Lv ρ' A' a := fun a ⟨j, u, h1, h2⟩ => by
    rcases at_ h1 h2 with ⟨_, a1, a2⟩ | ⟨_, a1, a2⟩
    · exact ⟨j, u, a1, a2⟩
    · subst a1 a2; exact ⟨i, _, hp, ho⟩
  refine ⟨⟨by simp [hl1, hl2], fun j a u h1 h2 => ?_, fun j l a u w h1 h2 h3 h4 => ?_⟩, fun j a h => getElem?_snoc_lt (s0.pre j a h), s.keep, fun a u e na z => s.noL a u e na (lv a z)⟩
  · refine RelAO.keep (fun _ _ h _ => .inl h) (fun a _ _ na z => na (lv a z)) hr.tup ?_
    rcases at_ h1 h2 with ⟨_, a1, a2⟩ | ⟨_, a1, a2⟩
    · exact hr.obj j a u a1 a2
    · subst a1 a2; exact hr.obj i _ _ hp ho
  · rcases at_ h1 h3 with ⟨a0, a1, a2⟩ | ⟨a0, a1, a2⟩
    · rcases at_ h2 h4 with ⟨b0, b1, b2⟩ | ⟨b0, b1, b2⟩
      · exact hr.inj j l a u w a1 b1 a2 b2
      · subst b1; have := hr.inj j i _ u o a1 hp a2 ho; omega
    · rcases at_ h2 h4 with ⟨b0, b1, b2⟩ | ⟨b0, b1, b2⟩
      · subst a1; have := hr.inj l i _ w o b1 hp b2 ho; omega
      · omega
theorem fin_ok {n : Nat} {d : D} {v : V} {Q : VK} {E : XK} (r : Rep K ρ A H) (s : Step K ρ A H ρ' A' H') (rd : RelD K ρ' A' H' d v) (h : OkF K (fin A.length d A') ρ A H Q E) : Q v H' := by
  have hl := r.len
  cases d with
  | p x =>
    have s1 := s.trunc ρ.length (Nat.le_refl _)
    rw [hl] at s1
    exact h _ H' v s1 (RelP.trunc s.rep A.length rd)
  | ref i =>
    obtain ⟨p, hp, rfl⟩ := rd
    unfold fin at h
    simp only at h
    split at h
    · rename_i hi
      have s1 := s.trunc ρ.length (Nat.le_refl _)
      rw [hl] at s1
      exact h _ H' _ s1 ⟨p, by rw [List.getElem?_take_of_lt hi]; exact hp, rfl⟩
    · rename_i hi
      split at h
      · rename_i o ho
        have s1 := Step.one s (by omega) hp ho
        have e1 : (ρ'.take ρ.length).length = ρ.length := by
          have := (List.getElem?_eq_some_iff.mp hp).1
          rw [List.length_take]; omega
        rw [hl] at s1
        refine h _ H' _ s1 ⟨p, ?_, rfl⟩
        rw [← hl, List.getElem?_append_right (by rw [e1]; exact Nat.le_refl _), e1]; simp
      · exact h.elim
/-- what a body's end is worth -/
theorem mkF_ok {N : List Str} {b : BS} {vs : List V} {Q : VK} {E : XK} (h : spF K (n := n) (mkF N.length b) vs H Q E) :
    tS K (fun c d _ H => E c d H) b { nx := fun _ H' => Q .non H', rt := Q } (L2.start N vs) H := by
  obtain ⟨_, ρ, A, ds, r, rd, o⟩ := h
  refine ⟨ρ, A, startD N.length ds, r, env_start rd, ?_⟩
  unfold mkF at o
  have hl := r.len
  cases q : b (startD N.length ds) A with
  | none => rw [q] at o; exact o.elim
  | some z =>
    rw [q] at o
    cases z with
    | nx σ1 A1 =>
      intro ρ1 H1 σ' s e
      have s1 := s.trunc ρ.length (Nat.le_refl _)
      rw [hl] at s1
      exact o _ H1 .non s1 (by simp only [RelD, RelP])
    | rt d A1 => exact fun ρ1 H1 v s rv => fin_ok (n := 0) r s rv o
    | bk _ _ => exact o.elim
    | ct _ _ => exact o.elim
    | exc x σ1 A1 =>
      intro ρ1 H1 σ' c dx s e rx
      have s1 := s.trunc ρ.length (Nat.le_refl _)
      rw [hl] at s1
      refine o _ H1 c dx s1 ?_
      obtain ⟨e1, e2⟩ := rx
      refine ⟨e1, e2.imp id fun ⟨d, vs, a, b, c⟩ => ⟨d, vs, a, b, RelFs.trunc s.rep A.length c⟩⟩
end
section
variable {P : Program} {w : World} {K : PySem.W.Frag} {mg : Str → Option Value} {base : Heap}
/-- a def of the text computes what its body does -/
theorem fn_ok {x qual : Str} {st : Stmt} {f : Addr} {fd : FuncData} {N ps : List Str} {k : Nat} {b : BS} (F : Fun K x qual st f fd) (S : FnScope N ps (defScope st))
    (hb : ∀ (cdv : Value) (A : Around) (outer : List Env) (s : Shared) (H : Hp) (E : XK), Room k (A.deeper (envOfC qual (defScope st) s.heap.objs.size f cdv)) →
      Co (cxOf (L2.CX P w) P w K mg base N qual (defScope st) f cdv A outer s H E) (fun c d _ H => E c d H) →
      PSs (cxOf (L2.CX P w) P w K mg base N qual (defScope st) f cdv A outer s H E) (defBody st) (tS K (fun c d _ H => E c d H) b)) :
    FnOk P w K mg base (L2.CX P w) (k + 1) f fd ps (spF K ps.length (mkF N.length b)) :=
  fun_okX F S (fun _ _ _ _ h => h.1) fun cdv A outer s H vs Q E hr h =>
    ⟨_, hb cdv A outer s H E hr ⟨takes_of rfl rfl rfl rfl, passes_of rfl, rfl, S.nd, fun _ => rfl⟩, mkF_ok h⟩
/-- a part of what it computes, said otherwise -/
def Le (F' F : BF) : Prop := ∀ ds A r, F' ds A = some r → F ds A = some r
theorem spF_imp {n : Nat} {F F' : BF} (h : Le F' F) {vs : List V} {H : Hp} {Q : VK} {E : XK} (q : spF K n F' vs H Q E) : spF K n F vs H Q E := by
  obtain ⟨a, ρ, A, ds, r, rd, o⟩ := q
  refine ⟨a, ρ, A, ds, r, rd, ?_⟩
  cases e : F' ds A with
  | none => rw [e] at o; exact o.elim
  | some z => rw [e] at o; rw [h ds A z e]; exact o
theorem fn_imp {k n : Nat} {f : Addr} {fd : FuncData} {ps : List Str} {F F' : BF} (G : FnOk P w K mg base (L2.CX P w) k f fd ps (spF K n F)) (h : Le F' F) : FnOk P w K mg base (L2.CX P w) k f fd ps (spF K n F') :=
  G.imp fun _ _ _ _ q => spF_imp h q
end

/-! ### calls -/
def bCall (F : BF) (dv : List P) (a : BA) : BE := fun σ => (a σ).bind fun ds A => F (ds ++ dv.map .p) A
section
variable {X : Cx} {W : WX} {K : PySem.W.Frag} {ρ ρ' : List Addr} {A A' : AH} {H H' : Hp} {σ : St}
theorem RelDs.append : ∀ {xs ys : List D} {vs ws : List V}, RelDs K ρ A H xs vs → RelDs K ρ A H ys ws → RelDs K ρ A H (xs ++ ys) (vs ++ ws)
  | [], _, _, _, h, q => by cases h; exact q
  | x :: r, ys, _, ws, ⟨v, w, e, a, b⟩, q => by subst e; exact ⟨v, w ++ ws, rfl, a, RelDs.append b q⟩
/-- values that any heap knows -/
inductive Plain (K : PySem.W.Frag) : List P → List V → List Value → Prop
  | nil : Plain K [] [] []
  | cons {x : P} {v : V} {u : Value} {xs : List P} {vs : List V} {us : List Value} (h : ∀ L H, RelP K L H x v) (r : RelV v u) (t : Plain K xs vs us) : Plain K (x :: xs) (v :: vs) (u :: us)
theorem Plain.vals {xs : List P} {vs : List V} {us : List Value} (h : Plain K xs vs us) : Vals vs us := by
  induction h with
  | nil => exact .nil
  | cons _ r _ ih => exact .cons r ih
theorem Plain.rel {xs : List P} {vs : List V} {us : List Value} (h : Plain K xs vs us) : RelDs K ρ A H (xs.map .p) vs := by
  induction h with
  | nil => exact rfl
  | cons h _ _ ih => exact ⟨_, _, rfl, h _ _, ih⟩
theorem Plain.none {xs : List P} {vs : List V} {us : List Value} (h : Plain K xs vs us) : Plain K (.non :: xs) (.non :: vs) (.none :: us) := .cons (fun _ _ => by simp only [RelP]) rfl h
theorem OkE.wish {α β : Type} {R : List Addr → AH → Hp → α → β → Prop} {W' : WX} {σ' : St} {r : Option (Res α)} {Q : β → Hp → Prop} (h : OkE K W R r ρ A σ H Q) (hw : ∀ c d H, W c d σ H → W' c d σ' H) : OkE K W' R r ρ A σ' H Q := by
  match r, h with
  | some (.val a A'), h => exact h
  | some (.exc x A'), h => exact fun ρ' H' c dx s rx => hw _ _ _ (h ρ' H' c dx s rx)
theorem rCall {n : Nat} {F : BF} {dv : List P} {vv : List V} {dvs : List Value} (hd : Plain K dv vv dvs) {a : BA} {Q : VK} (hn : ∀ ds A r, F ds A = some r → ds.length = n) (h : tE K W (bCall F dv a) σ H Q) :
    tA K W a σ H fun vs H1 => spF K n F (vs ++ vv) H1 Q (WE W σ) := by
  refine tG.mono (tG.bind (f := a) h) fun vs H1 ⟨ρ1, A1, σD, ds, r, e, rd, o⟩ => ?_
  have rd2 := rd.append (hd.rel (ρ := ρ1) (A := A1) (H := H1))
  cases q : F (ds ++ dv.map .p) A1 with
  | none => rw [q] at o; exact o.elim
  | some z => exact ⟨by rw [← rd2.length]; exact hn _ _ _ q, ρ1, A1, _, r, rd2, o.wish fun _ _ _ h => h⟩
section
variable {k n : Nat} {f C : Addr} {fd : FuncData} {ps : List Str} {F : BF} {dv : List P} {vv : List V} {dvs : List Value} {x m : Str} {p pos apos : Pos} {e o : Expr} {es : List Expr} {fo : BE} {a : BA}
theorem e_call (G : FnOk X.prog X.w X.K X.mg X.base (L2.CX X.prog X.w) k f fd ps (spF X.K n F)) (hn : ∀ ds A r, F ds A = some r → ds.length = n) (tk : Takes X W) (hr : Room k X.A) (hg : Gl X x) (hm : X.mg x = some (.ref f)) (hk : PySem.W.keepIn X.K (.ref f) = true) (hb : Binds X.K fd ps dvs) (hd : Plain X.K dv vv dvs)
    (ha : PA X (e :: es) (tA X.K W a)) (hdb : (x == ("__debug__" : Str)) = false := by decide) (he : starEach (e :: es) X.env = (false, eval e X.env) :: starEach es X.env := by rfl) (hpl : (backTo pos (starEach es X.env)).any (·.1) = false := by rfl) :
    PE X (.Call (.Name x p) (e :: es) [] pos) (tE X.K W (bCall F dv a)) :=
  (pe_callSD (E := WE W) G hr hg hm hk hb hd.vals (fun σ => passAt tk σ) ha hdb he hpl).imp fun σ H Q h => rCall hd hn h
/-- f() -/
theorem e_call0 (G : FnOk X.prog X.w X.K X.mg X.base (L2.CX X.prog X.w) k f fd ps (spF X.K n F)) (hn : ∀ ds A r, F ds A = some r → ds.length = n) (tk : Takes X W) (hr : Room k X.A) (hg : Gl X x) (hm : X.mg x = some (.ref f)) (hk : PySem.W.keepIn X.K (.ref f) = true) (hb : Binds X.K fd ps dvs) (hd : Plain X.K dv vv dvs)
    (hdb : (x == ("__debug__" : Str)) = false := by decide) : PE X (.Call (.Name x p) [] [] pos) (tE X.K W (bCall F dv bNil)) := by
  refine ⟨fun pins s σ H Q I h => ?_⟩
  refine wpAny_Call_Name_kw (ld_glob I hg hm ?_ hdb)
  have h1 := rCall hd hn h
  obtain ⟨ρ, A, σD, r, e, o⟩ := h1
  have h2 := OkE.ret r o (b := []) rfl
  exact PySem.W.callWith_K0 I.kIn hk (run_fnSD (us := []) (vs := []) G hr hb hd.vals (passAt tk σ) I .nil h2)
/-- o.m(..), o an instance (frozen or not) of the class at C whose attributes hide no m -/
def insOf (d : D) (A : AH) : Option (Addr × List (Str × P)) := match d with
  | .p (.obj C fs) => some (C, fs)
  | .ref i => match A[i]? with
    | some (some (.ins C fs)) => some (C, fs)
    | _ => none
  | _ => none
theorem insOf_rel (r : Rep K ρ A H) {d : D} {v : V} {C : Addr} {fs : List (Str × P)} (rd : RelD K ρ A H d v) (h : insOf d A = some (C, fs)) : ∃ p dx vs, v = .ref p ∧ H p = some (.ins C dx vs) ∧ RelFs K (Lv ρ A) H fs vs := by
  unfold insOf at h
  split at h
  · cases h
    simp only [RelD, RelP] at rd
    obtain ⟨p, dx, vs, e, _, h1, h2⟩ := rd
    exact ⟨p, dx, vs, e, h1, h2⟩
  · rename_i i
    split at h
    · rename_i C' fs' hA
      cases h
      obtain ⟨p, hp, e⟩ := rd
      obtain ⟨dx, vs, h1, h2⟩ := r.obj _ p _ hp hA
      exact ⟨p, dx, vs, e, h1, h2⟩
    · cases h
  · cases h
theorem RelFs.lookup {L : Addr → Prop} {m : Str} : ∀ {fs : List (Str × P)} {vs : List (Str × V)}, RelFs K L H fs vs → (fs.lookup m = none → vs.lookup m = none) ∧ ∀ x, fs.lookup m = some x → ∃ v, vs.lookup m = some v ∧ RelP K L H x v
  | [], _, h => by simp only [RelFs] at h; subst h; exact ⟨fun _ => rfl, fun x h => by cases h⟩
  | (g, y) :: r, _, h => by
    simp only [RelFs] at h
    obtain ⟨v, w, rfl, a, b⟩ := h
    have ih := RelFs.lookup (m := m) b
    simp only [List.lookup_cons]
    cases m == g with
    | true => exact ⟨(fun h => by cases h), (fun x h => by cases h; exact ⟨v, rfl, a⟩)⟩
    | false => exact ih
def bMeth (C : Addr) (m : Str) (F : BF) (dv : List P) (fo : BE) (a : BA) : BE := fun σ => (fo σ).bind fun d A => match insOf d A with
  | some (C', fs) => if C' = C ∧ fs.lookup m = none then ((a σ).bind fun ds A => F (d :: (ds ++ dv.map .p)) A) A else none
  | none => none
theorem rMeth {F : BF} {dv : List P} {vv : List V} {dvs : List Value} (hd : Plain K dv vv dvs) {fo : BE} {a : BA} {Q : VK} (hn : ∀ ds A r, F ds A = some r → ds.length = n) (h : tE K W (bMeth C m F dv fo a) σ H Q) :
    tE K W fo σ H fun x H1 => ∃ p dx vs, x = .ref p ∧ H1 p = some (.ins C dx vs) ∧ vs.lookup m = none ∧ tA K W a σ H1 fun us H2 => spF K n F (x :: (us ++ vv)) H2 Q (WE W σ) := by
  refine tG.mono (tG.bind (f := fo) h) fun x H1 ⟨ρ1, A1, σD, d, r, e, rd, o⟩ => ?_
  split at o
  · rename_i C' fs hi
    split at o
    · rename_i hc
      obtain ⟨rfl, hl⟩ := hc
      obtain ⟨p, dx, vs, e1, e2, e3⟩ := insOf_rel r rd hi
      refine ⟨p, dx, vs, e1, e2, e3.lookup.1 hl, ρ1, A1, σD, r, e, (OkE.bind (R := RelDs K) o).mono fun us H2 ⟨ρ2, A2, ds, s2, rds, o2⟩ => ?_⟩
      have rd2 : RelDs K ρ2 A2 H2 (d :: (ds ++ dv.map .p)) (x :: (us ++ vv)) := ⟨x, us ++ vv, rfl, rd.step r s2, rds.append hd.rel⟩
      cases q : F (d :: (ds ++ dv.map .p)) A2 with
      | none => rw [q] at o2; exact o2.elim
      | some z => exact ⟨by rw [← rd2.length]; exact hn _ _ _ q, ρ2, A2, _, s2.rep, rd2, o2.wish fun _ _ _ h => h⟩
    · exact o.elim
  · exact o.elim
theorem e_meth {pl : Sem Bool} (he : PE X o (tE X.K W fo)) (c : Cls X.K C) (hm : Meth X.K C m f) (G : FnOk X.prog X.w X.K X.mg X.base (L2.CX X.prog X.w) k f fd ps (spF X.K n F)) (hn : ∀ ds A r, F ds A = some r → ds.length = n) (tk : Takes X W) (hr : Room k X.A) (hb : Binds X.K fd ps dvs) (hd : Plain X.K dv vv dvs)
    (ha : PA X (e :: es) (tA X.K W a)) (hst : starEach (e :: es) X.env = (false, eval e X.env) :: starEach es X.env := by rfl) (hpl : (backTo pos (starEach es X.env)).any (·.1) = false := by rfl)
    (ht : eval (.Call (.Attribute o m apos) (e :: es) [] pos) X.env = (do
      let ov ← eval o X.env
      standAt apos.atName
      let (f, first) ← holding [ov] (getMethod ov m pl)
      callWith pos f first (backTo pos (starEach (e :: es) X.env)) (backToKw pos (keywordEach [] X.env))) := by rfl) :
    PE X (.Call (.Attribute o m apos) (e :: es) [] pos) (tE X.K W (bMeth C m F dv fo a)) := by
  refine ⟨fun pins s σ H Q I h => ?_⟩
  refine PySem.W.methodCall_KW (pl := pl) (thn (he.run pins s σ H _ I (rMeth hd hn h)) fun u s1 ⟨x, H1, I1, rx, a, dx, fs, ex, ea, l, q⟩ => ?_) ht
  subst ex
  obtain rfl : u = Value.ref a := rx
  refine getmeth_ok I1 ea c hm l ?_
  refine PySem.W.callWith_K (first := [.ref a]) (h₀ := X.base) I.ok.mod.kin hm.kp (thn (ha.run pos pins s1 σ H1 _ I1 q) fun us s2 ⟨vs, H2, I2, r, q2⟩ => ⟨I2.kIn, ?_⟩) hst hpl
  exact run_fnSD (us := .ref a :: us) (vs := .ref a :: vs) G hr hb hd.vals (passAt tk σ) I2 (.cons rfl r) q2
theorem e_meth0 {pl : Sem Bool} (he : PE X o (tE X.K W fo)) (c : Cls X.K C) (hm : Meth X.K C m f) (G : FnOk X.prog X.w X.K X.mg X.base (L2.CX X.prog X.w) k f fd ps (spF X.K n F)) (hn : ∀ ds A r, F ds A = some r → ds.length = n) (tk : Takes X W) (hr : Room k X.A) (hb : Binds X.K fd ps dvs) (hd : Plain X.K dv vv dvs)
    (ht : eval (.Call (.Attribute o m apos) [] [] pos) X.env = (do
      let ov ← eval o X.env
      standAt apos.atName
      let (f, first) ← holding [ov] (getMethod ov m pl)
      callWith pos f first (backTo pos (starEach [] X.env)) (backToKw pos (keywordEach [] X.env))) := by rfl) :
    PE X (.Call (.Attribute o m apos) [] [] pos) (tE X.K W (bMeth C m F dv fo bNil)) := by
  refine ⟨fun pins s σ H Q I h => ?_⟩
  refine PySem.W.methodCall_KW (pl := pl) (thn (he.run pins s σ H _ I (rMeth hd hn h)) fun u s1 ⟨x, H1, I1, rx, a, dx, fs, ex, ea, l, q⟩ => ?_) ht
  subst ex
  obtain rfl : u = Value.ref a := rx
  refine getmeth_ok I1 ea c hm l ?_
  obtain ⟨ρ, A, σD, r, e, o⟩ := q
  exact PySem.W.callWith_K0 (first := [.ref a]) I1.kIn hm.kp (run_fnSD (us := [.ref a]) (vs := [.ref a]) G hr hb hd.vals (passAt tk σ) I1 (.cons rfl .nil) (OkE.ret r o (b := []) rfl))
end
end
end PF

/-! text PF5 -/
set_option Elab.async false
set_option linter.all false
set_option maxRecDepth 100000
/-! PF5: operators and built-ins on values. -/
namespace PF
open PySem L2 PySem.Spec PyProof.Rows

/-! ### reading values -/
def lstOf (d : D) (A : AH) : Option (List P) := match d with
  | .p (.lst xs) => some xs
  | .ref i => match A[i]? with
    | some (some (.lst xs)) => some xs
    | _ => none
  | _ => none
def tupOf (d : D) : Option (List P) := match d with
  | .p (.tup xs) => some xs
  | .p (.ktup xs) => some xs
  | _ => none
def seqOf (d : D) (A : AH) : Option (List P) := match tupOf d with
  | some xs => some xs
  | none => match lstOf d A with
    | some xs => some xs
    | none => match d with
      | .p (.klst xs) => some xs
      | _ => none
def dicOf (d : D) (A : AH) : Option (Bool × List (P × P)) := match d with
  | .p (.dic t xs) => some (t, xs)
  | .ref i => match A[i]? with
    | some (some (.dic t xs)) => some (t, xs)
    | _ => none
  | _ => none
def intOf (d : D) : Option Int := match d with
  | .p (.int i) => some i
  | _ => none
def strOf (d : D) : Option Str := match d with
  | .p (.str i) => some i
  | _ => none
mutual
def pyOf : P → Option PyData
  | .non => some .none
  | .bl b => some (.bool b)
  | .int i => some (.int i)
  | .str x => some (.str x)
  | .tup xs => (pyOfs xs).map .tuple
  | .ktup xs => (pyOfs xs).map .tuple
  | .lst xs => (pyOfs xs).map .list
  | .klst xs => (pyOfs xs).map .list
  | .dic _ _ => none
  | .obj _ _ => none
  | .rf _ => none
  | .ty _ => none
def pyOfs : List P → Option (List PyData)
  | [] => some []
  | x :: r => match pyOf x, pyOfs r with
    | some y, some ys => some (y :: ys)
    | _, _ => none
end
def pyD (d : D) (A : AH) : Option PyData := match d with
  | .p x => pyOf x
  | .ref i => match A[i]? with
    | some (some (.lst xs)) => (pyOfs xs).map .list
    | _ => none
section
variable {X : Cx} {W : WX} {K : PySem.W.Frag} {ρ ρ' : List Addr} {A A' : AH} {H H' : Hp} {σ : St} {d : D} {v : V}
theorem rd_int {i : Int} (h : RelD K ρ A H d v) (e : intOf d = some i) : v = .int i := by
  unfold intOf at e
  split at e
  · cases e; simpa only [RelD, RelP] using h
  · cases e
theorem rd_str {i : Str} (h : RelD K ρ A H d v) (e : strOf d = some i) : v = .str i := by
  unfold strOf at e
  split at e
  · cases e; simpa only [RelD, RelP] using h
  · cases e
theorem rd_tup {xs : List P} (h : RelD K ρ A H d v) (e : tupOf d = some xs) : ∃ a vs, v = .ref a ∧ SqT K H a vs ∧ RelPs K (Lv ρ A) H xs vs := by
  unfold tupOf at e
  split at e
  · cases e
    simp only [RelD, RelP] at h
    obtain ⟨a, vs, e, s, r⟩ := h
    exact ⟨a, vs, e, SqT.of s, r⟩
  · cases e; simpa only [RelD, RelP] using h
  · cases e
theorem rd_lst {xs : List P} (r : Rep K ρ A H) (h : RelD K ρ A H d v) (e : lstOf d A = some xs) : ∃ a vs, v = .ref a ∧ H a = some (.lst vs) ∧ RelPs K (Lv ρ A) H xs vs := by
  unfold lstOf at e
  split at e
  · cases e
    simp only [RelD, RelP] at h
    obtain ⟨a, vs, e, _, h1, h2⟩ := h
    exact ⟨a, vs, e, h1, h2⟩
  · split at e
    · rename_i hA
      cases e
      obtain ⟨p, hp, e⟩ := h
      obtain ⟨vs, h1, h2⟩ := r.obj _ p _ hp hA
      exact ⟨p, vs, e, h1, h2⟩
    · cases e
  · cases e
theorem rd_seq {xs : List P} (r : Rep K ρ A H) (h : RelD K ρ A H d v) (e : seqOf d A = some xs) : ∃ a vs, v = .ref a ∧ (SqL K H a vs ∨ SqT K H a vs) ∧ RelPs K (Lv ρ A) H xs vs := by
  unfold seqOf at e
  split at e
  · rename_i ht
    cases e
    obtain ⟨a, vs, h1, h2, h3⟩ := rd_tup h ht
    exact ⟨a, vs, h1, .inr h2, h3⟩
  · split at e
    · rename_i hl
      cases e
      obtain ⟨a, vs, h1, h2, h3⟩ := rd_lst r h hl
      exact ⟨a, vs, h1, .inl (.inl (.inl h2)), h3⟩
    · split at e
      · cases e
        simp only [RelD, RelP] at h
        obtain ⟨a, vs, e, s, r⟩ := h
        exact ⟨a, vs, e, .inl s.sq, r⟩
      · cases e
theorem rd_dic {t : Bool} {xs : List (P × P)} (r : Rep K ρ A H) (h : RelD K ρ A H d v) (e : dicOf d A = some (t, xs)) : ∃ a, v = .ref a ∧ ((t = false ∧ ∃ l, Rd H a (.dK l) ∧ RelKV K (Lv ρ A) H xs l) ∨ (t = true ∧ ∃ l, Rd H a (.dT l) ∧ RelTV K (Lv ρ A) H xs l)) := by
  unfold dicOf at e
  split at e
  · cases e
    simp only [RelD, RelP] at h
    obtain ⟨a, e, _, h1⟩ := h
    exact ⟨a, e, h1⟩
  · split at e
    · rename_i hA
      cases e
      obtain ⟨p, hp, e⟩ := h
      rcases r.obj _ p _ hp hA with ⟨z, l, h1, h2⟩ | ⟨z, l, h1, h2⟩
      · exact ⟨p, e, .inl ⟨z, l, .inl h1, h2⟩⟩
      · exact ⟨p, e, .inr ⟨z, l, .inl h1, h2⟩⟩
    · cases e
  · cases e
theorem RelPs.get {L : Addr → Prop} : ∀ {xs : List P} {vs : List V} {i : Nat} {x : P}, RelPs K L H xs vs → xs[i]? = some x → ∃ v, vs[i]? = some v ∧ RelP K L H x v
  | [], _, _, _, _, h => by simp at h
  | y :: r, _, 0, x, h, e => by
    simp only [RelPs] at h
    obtain ⟨v, w, rfl, a, _⟩ := h
    simp at e; subst e
    exact ⟨v, rfl, a⟩
  | y :: r, _, i + 1, x, h, e => by
    simp only [RelPs] at h
    obtain ⟨v, w, rfl, _, b⟩ := h
    obtain ⟨u, h1, h2⟩ := RelPs.get (i := i) b (by simpa using e)
    exact ⟨u, by simpa using h1, h2⟩
theorem RelPs.append {L : Addr → Prop} : ∀ {xs ys : List P} {vs ws : List V}, RelPs K L H xs vs → RelPs K L H ys ws → RelPs K L H (xs ++ ys) (vs ++ ws)
  | [], _, _, _, h, q => by simp only [RelPs] at h; subst h; exact q
  | y :: r, _, _, ws, h, q => by
    simp only [RelPs] at h
    obtain ⟨v, w, rfl, a, b⟩ := h
    simp only [List.cons_append, RelPs]
    exact ⟨v, w ++ ws, rfl, a, RelPs.append b q⟩
theorem RelPs.take {L : Addr → Prop} : ∀ {xs : List P} {vs : List V} (n : Nat), RelPs K L H xs vs → RelPs K L H (xs.take n) (vs.take n)
  | _, _, 0, _ => by simp only [List.take_zero, RelPs]
  | [], _, n + 1, h => by simp only [RelPs] at h; subst h; simp only [List.take_nil, RelPs]
  | y :: r, _, n + 1, h => by
    simp only [RelPs] at h
    obtain ⟨v, w, rfl, a, b⟩ := h
    simp only [List.take_succ_cons, RelPs]
    exact ⟨v, _, rfl, a, RelPs.take n b⟩
theorem RelPs.drop {L : Addr → Prop} : ∀ {xs : List P} {vs : List V} (n : Nat), RelPs K L H xs vs → RelPs K L H (xs.drop n) (vs.drop n)
  | _, _, 0, h => h
  | [], _, n + 1, h => by simp only [RelPs] at h; subst h; simp only [List.drop_nil, RelPs]
  | y :: r, _, n + 1, h => by
    simp only [RelPs] at h
    obtain ⟨v, w, rfl, a, b⟩ := h
    simp only [List.drop_succ_cons]
    exact RelPs.drop n b
theorem RelPs.set {L : Addr → Prop} {x : P} {v : V} (hx : RelP K L H x v) : ∀ {xs : List P} {vs : List V} (n : Nat), RelPs K L H xs vs → RelPs K L H (xs.set n x) (vs.set n v)
  | [], _, n, h => by simp only [RelPs] at h; subst h; simp only [List.set_nil, RelPs]
  | y :: r, _, 0, h => by
    simp only [RelPs] at h
    obtain ⟨v, w, rfl, a, b⟩ := h
    simp only [List.set_cons_zero, RelPs]
    exact ⟨_, _, rfl, hx, b⟩
  | y :: r, _, n + 1, h => by
    simp only [RelPs] at h
    obtain ⟨v, w, rfl, a, b⟩ := h
    simp only [List.set_cons_succ, RelPs]
    exact ⟨_, _, rfl, a, RelPs.set hx n b⟩
mutual
theorem py_rel {L : Addr → Prop} : ∀ (x : P) (v : V) (d : PyData), RelP K L H x v → pyOf x = some d → Dp K H v d
  | .non, v, d, h, e => by simp only [RelP] at h; simp only [pyOf] at e; cases e; subst h; exact .non
  | .bl b, v, d, h, e => by simp only [RelP] at h; simp only [pyOf] at e; cases e; subst h; exact .bl b
  | .int i, v, d, h, e => by simp only [RelP] at h; simp only [pyOf] at e; cases e; subst h; exact .int i
  | .str x, v, d, h, e => by simp only [RelP] at h; simp only [pyOf] at e; cases e; subst h; exact .str x
  | .tup xs, v, d, h, e => by
    simp only [RelP] at h
    obtain ⟨a, vs, rfl, s, r⟩ := h
    simp only [pyOf] at e
    cases q : pyOfs xs with
    | none => rw [q] at e; cases e
    | some ys => rw [q] at e; cases e; exact .tup (SqT.of s) (py_rels xs vs ys r q)
  | .ktup xs, v, d, h, e => by
    simp only [RelP] at h
    obtain ⟨a, vs, rfl, s, r⟩ := h
    simp only [pyOf] at e
    cases q : pyOfs xs with
    | none => rw [q] at e; cases e
    | some ys => rw [q] at e; cases e; exact .tup s (py_rels xs vs ys r q)
  | .lst xs, v, d, h, e => by
    simp only [RelP] at h
    obtain ⟨a, vs, rfl, _, s, r⟩ := h
    simp only [pyOf] at e
    cases q : pyOfs xs with
    | none => rw [q] at e; cases e
    | some ys => rw [q] at e; cases e; exact .lst (.inl (.inl s)) (py_rels xs vs ys r q)
  | .klst xs, v, d, h, e => by
    simp only [RelP] at h
    obtain ⟨a, vs, rfl, s, r⟩ := h
    simp only [pyOf] at e
    cases q : pyOfs xs with
    | none => rw [q] at e; cases e
    | some ys => rw [q] at e; cases e; exact .lst s.sq (py_rels xs vs ys r q)
  | .dic _ _, _, _, _, e => by simp only [pyOf] at e; cases e
  | .obj _ _, _, _, _, e => by simp only [pyOf] at e; cases e
  | .rf _, _, _, _, e => by simp only [pyOf] at e; cases e
  | .ty _, _, _, _, e => by simp only [pyOf] at e; cases e
theorem py_rels {L : Addr → Prop} : ∀ (xs : List P) (vs : List V) (ds : List PyData), RelPs K L H xs vs → pyOfs xs = some ds → DpAll K H vs ds
  | [], vs, ds, h, e => by simp only [RelPs] at h; simp only [pyOfs] at e; cases e; subst h; exact .nil
  | x :: r, vs, ds, h, e => by
    simp only [RelPs] at h
    obtain ⟨v, w, rfl, a, b⟩ := h
    simp only [pyOfs] at e
    cases q1 : pyOf x with
    | none => rw [q1] at e; cases e
    | some y =>
      cases q2 : pyOfs r with
      | none => rw [q1, q2] at e; cases e
      | some ys => rw [q1, q2] at e; cases e; exact .cons (py_rel x v y a q1) (py_rels r w ys b q2)
end
theorem rd_py {e : PyData} (r : Rep K ρ A H) (h : RelD K ρ A H d v) (q : pyD d A = some e) : Dp K H v e := by
  unfold pyD at q
  split at q
  · exact py_rel _ v e h q
  · split at q
    · rename_i xs hA
      obtain ⟨p, hp, rfl⟩ := h
      obtain ⟨vs, h1, h2⟩ := r.obj _ p _ hp hA
      cases q2 : pyOfs xs with
      | none => rw [q2] at q; cases q
      | some ys => rw [q2] at q; cases q; exact .lst (.inl (.inl h1)) (py_rels xs vs ys h2 q2)
    · cases q
end

/-! ### operators on ints, texts, sequences -/
open Classical in
/-- two ints to an int, under a condition -/
noncomputable def o2i (C : Int → Int → Prop) (g : Int → Int → Int) : D → D → M D := fun x y => match intOf x, intOf y with
  | some i, some j => if C i j then M.ret (.p (.int (g i j))) else M.stuck
  | _, _ => M.stuck
def o2b (g : Int → Int → Bool) : D → D → M D := fun x y => match intOf x, intOf y with
  | some i, some j => M.ret (.p (.bl (g i j)))
  | _, _ => M.stuck
section
variable {X : Cx} {W : WX} {K : PySem.W.Frag} {ρ ρ' : List Addr} {A A' : AH} {H H' : Hp} {σ : St} {d : D} {v : V}
theorem r2_i {C : Int → Int → Prop} {g : Int → Int → Int} : R2D K W (o2i C g) (rI C fun i j => .int (g i j)) := by
  intro ρ A σ H x y v u Q r rx ry o
  unfold o2i at o
  cases e1 : intOf x with
  | none => simp only [e1] at o; exact o.elim
  | some i =>
    cases e2 : intOf y with
    | none => simp only [e1, e2] at o; exact o.elim
    | some j =>
      simp only [e1, e2] at o
      by_cases hc : C i j
      · rw [if_pos hc] at o
        exact ⟨i, j, rd_int rx e1, rd_int ry e2, hc, OkE.ret r o (by simp only [RelD, RelP])⟩
      · rw [if_neg hc] at o; exact o.elim
theorem r2_i0 {g : Int → Int → Int} : R2D K W (o2i (fun _ _ => True) g) (rI0 fun i j => .int (g i j)) := by
  intro ρ A σ H x y v u Q r rx ry o
  obtain ⟨i, j, h1, h2, _, h3⟩ := r2_i ρ A σ H x y v u Q r rx ry o
  exact ⟨i, j, h1, h2, h3⟩
theorem r2_b {g : Int → Int → Bool} : R2D K W (o2b g) (rI0 fun i j => .bl (g i j)) := by
  intro ρ A σ H x y v u Q r rx ry o
  unfold o2b at o
  cases e1 : intOf x with
  | none => simp only [e1] at o; exact o.elim
  | some i =>
    cases e2 : intOf y with
    | none => simp only [e1, e2] at o; exact o.elim
    | some j =>
      simp only [e1, e2] at o
      exact ⟨i, j, rd_int rx e1, rd_int ry e2, OkE.ret r o (by simp only [RelD, RelP])⟩
/-- == of data -/
def o2eq (neg : Bool) : D → D → M D := fun x y A => match pyD x A, pyD y A with
  | some d, some e => if SeqAt.shaped d = true ∧ SeqAt.shaped e = true then some (.val (.p (.bl (if neg then !PyData.eqv d e else PyData.eqv d e))) A) else none
  | _, _ => none
theorem r2_eq : R2D K W (o2eq false) (rEqD K) := by
  intro ρ A σ H x y v u Q r rx ry o
  unfold o2eq at o
  split at o
  · rename_i d e h1 h2
    split at o
    · rename_i hs
      exact ⟨d, e, rd_py r rx h1, rd_py r ry h2, hs.1, hs.2, o ρ H _ (Step.refl r) (by simp only [RelD, RelP]; rfl)⟩
    · exact o.elim
  · exact o.elim
theorem r2_ne : R2D K W (o2eq true) (rNeD K) := by
  intro ρ A σ H x y v u Q r rx ry o
  unfold o2eq at o
  split at o
  · rename_i d e h1 h2
    split at o
    · rename_i hs
      exact ⟨d, e, rd_py r rx h1, rd_py r ry h2, hs.1, hs.2, o ρ H _ (Step.refl r) (by simp only [RelD, RelP]; rfl)⟩
    · exact o.elim
  · exact o.elim
/-- two texts -/
def o2sb (g : Str → Str → Bool) : D → D → M D := fun x y => match strOf x, strOf y with
  | some i, some j => M.ret (.p (.bl (g i j)))
  | _, _ => M.stuck
theorem r2_sb {g : Str → Str → Bool} : R2D K W (o2sb g) (fun x y H Q => ∃ i j, x = .str i ∧ y = .str j ∧ Q (.bl (g i j)) H) := by
  intro ρ A σ H x y v u Q r rx ry o
  unfold o2sb at o
  cases e1 : strOf x with
  | none => simp only [e1] at o; exact o.elim
  | some i =>
    cases e2 : strOf y with
    | none => simp only [e1, e2] at o; exact o.elim
    | some j =>
      simp only [e1, e2] at o
      exact ⟨i, j, rd_str rx e1, rd_str ry e2, OkE.ret r o (by simp only [RelD, RelP])⟩
/-- a + b: ints, texts, lists, tuples -/
def oAdd : D → D → M D := fun x y A => match intOf x, intOf y with
  | some i, some j => some (.val (.p (.int (i + j))) A)
  | _, _ => match strOf x, strOf y with
    | some i, some j => if i.length + j.length ≤ sizeLine then some (.val (.p (.str (i ++ j))) A) else none
    | _, _ => none
theorem r2_add : R2D K W oAdd (fun x y H Q => rI0 (fun i j => .int (i + j)) x y H Q ∨ ∃ i j, x = .str i ∧ y = .str j ∧ i.length + j.length ≤ sizeLine ∧ Q (.str (i ++ j)) H) := by
  intro ρ A σ H x y v u Q r rx ry o
  unfold oAdd at o
  split at o
  · rename_i i j e1 e2
    exact .inl ⟨i, j, rd_int rx e1, rd_int ry e2, o ρ H _ (Step.refl r) (by simp only [RelD, RelP])⟩
  · split at o
    · rename_i i j e1 e2
      split at o
      · rename_i c
        exact .inr ⟨i, j, rd_str rx e1, rd_str ry e2, c, o ρ H _ (Step.refl r) (by simp only [RelD, RelP])⟩
      · exact o.elim
    · exact o.elim
theorem op_addX : OpR X (binaryOp .Add) (fun x y H Q => rI0 (fun i j => .int (i + j)) x y H Q ∨ ∃ i j, x = .str i ∧ y = .str j ∧ i.length + j.length ≤ sizeLine ∧ Q (.str (i ++ j)) H) := op_add.or op_add_str

/-! ### chains -/
def bChain (g g' : D → D → M D) (fa fb fc : BE) : BE := fun σ => (fa σ).bind fun x => (fb σ).bind fun y => (g x y).bind fun z => match z with
  | .p (.bl true) => (fc σ).bind fun w => g' y w
  | .p (.bl false) => M.ret (.p (.bl false))
  | _ => M.stuck
/-- operators whose reading is one heap's -/
theorem rChain {g g' : D → D → M D} {q q' : Int → Int → Bool} (hg : g = o2b q) (hg' : g' = o2b q') {fa fb fc : BE} {Q : VK} (h : tE K W (bChain g g' fa fb fc) σ H Q) :
    tChain (rI0 fun i j => .bl (q i j)) (rI0 fun i j => .bl (q' i j)) (tE K W fa) (tE K W fb) (tE K W fc) σ H Q := by
  subst hg hg'
  refine tG.mono (tG.bind (f := fa) h) fun v H1 ⟨ρ1, A1, σD, x, r1, e1, rx, o1⟩ => ?_
  refine ⟨ρ1, A1, σD, r1, e1, (OkE.bind (R := RelD K) o1).mono fun u H2 ⟨ρ2, A2, y, s2, ry, o2⟩ => ?_⟩
  have rx2 := rx.step r1 s2
  cases h1 : intOf x with
  | none => simp only [M.bind, o2b, h1] at o2; exact o2.elim
  | some i =>
    cases h2 : intOf y with
    | none => simp only [M.bind, o2b, h1, h2] at o2; exact o2.elim
    | some j =>
      rw [M.bind_val (show o2b q x y A2 = some (.val (.p (.bl (q i j))) A2) by simp only [o2b, h1, h2]; rfl)] at o2
      refine ⟨i, j, rd_int rx2 h1, rd_int ry h2, q i j, rfl, ?_⟩
      cases hq : q i j with
      | false =>
        rw [hq] at o2
        exact o2 ρ2 H2 _ (Step.refl s2.rep) (by simp only [RelD, RelP])
      | true =>
        rw [hq] at o2
        refine ⟨ρ2, A2, σD, s2.rep, e1.step r1 s2, (OkE.bind (R := RelD K) (R' := RelD K) (f := fc σD) (g := fun w => o2b q' y w) o2).mono fun w H3 ⟨ρ3, A3, z, s3, rz, o3⟩ => ?_⟩
        exact r2_b ρ3 A3 σ H3 y z u w Q s3.rep (ry.step s2.rep s3) rz o3
end
end PF

/-! text PF6 -/
set_option Elab.async false
set_option linter.all false
set_option maxRecDepth 100000
/-! PF6: calls of built-ins, subscripts, membership. -/
namespace PF
open PySem L2 PySem.Spec PyProof.Rows

/-- a built-in called on values: what it computes -/
abbrev BL := List D → M D
def RLD (K : PySem.W.Frag) (W : WX) (g : BL) (r : List V → Hp → VK → Prop) : Prop := ∀ ρ A (σ : St) H ds vs Q, Rep K ρ A H → RelDs K ρ A H ds vs → OkE K W (RelD K) (g ds A) ρ A σ H Q → r vs H Q
def bCB (g : BL) (a : BA) : BE := fun σ => (a σ).bind g
section
variable {X : Cx} {W : WX} {K : PySem.W.Frag} {ρ ρ' : List Addr} {A A' : AH} {H H' : Hp} {σ : St} {g : BL} {r : List V → Hp → VK → Prop} {a : BA} {e : Expr} {es : List Expr} {x : Str} {id T : String} {p pos : Pos}
theorem rCB (hg : RLD K W g r) {Q : VK} (h : tE K W (bCB g a) σ H Q) : tCB r (tA K W a) σ H Q :=
  tG.mono (tG.bind (f := a) h) fun vs H1 ⟨ρ1, A1, σD, ds, r1, e1, rd, o⟩ => hg ρ1 A1 σ H1 ds vs Q r1 rd o
/-- f(e, ..), f a built-in function -/
theorem e_callB (hc : CallR X (.builtin id) r) (hg : RLD X.K W g r) (hgl : Gl X x) (hm : X.mg x = none) (hv : bootBuiltins x = some (.builtin id)) (ha : PA X (e :: es) (tA X.K W a)) (hn : x ≠ "__name__" := by decide) (hdb : (x == ("__debug__" : Str)) = false := by decide)
    (he : starEach (e :: es) X.env = (false, eval e X.env) :: starEach es X.env := by rfl) (hpl : (backTo pos (starEach es X.env)).any (·.1) = false := by rfl) : PE X (.Call (.Name x p) (e :: es) [] pos) (tE X.K W (bCB g a)) :=
  (pe_callB hc hgl hm hv ha hn hdb he hpl).imp fun _ _ _ h => rCB hg h
/-- .. a built-in class -/
theorem e_callTy (hc : CallR X (.type T) r) (hg : RLD X.K W g r) (hgl : Gl X x) (hm : X.mg x = none) (hv : bootBuiltins x = some (.type T)) (ha : PA X (e :: es) (tA X.K W a)) (hn : x ≠ "__name__" := by decide) (hdb : (x == ("__debug__" : Str)) = false := by decide)
    (he : starEach (e :: es) X.env = (false, eval e X.env) :: starEach es X.env := by rfl) (hpl : (backTo pos (starEach es X.env)).any (·.1) = false := by rfl) : PE X (.Call (.Name x p) (e :: es) [] pos) (tE X.K W (bCB g a)) :=
  (pe_callTy hc hgl hm hv ha hn hdb he hpl).imp fun _ _ _ h => rCB hg h
/-- a built-in class as a value -/
theorem e_ty {n : String} (hg : Gl X x) (hm : X.mg x = none) (hv : bootBuiltins x = some (.type n)) (hn : x ≠ "__name__" := by decide) (hd : (x == ("__debug__" : Str)) = false := by decide) : PE X (.Name x pos) (tE X.K W (bC (.ty n))) :=
  (pe_bltn (v := .ty n) hg hm hv rfl hn hd).imp fun _ _ _ h => rC (fun _ _ => by simp only [RelP]) h
/-- a class or a def of the text as a value -/
theorem e_rf {a : Addr} (hg : Gl X x) (hm : X.mg x = some (.ref a)) (hd : (x == ("__debug__" : Str)) = false := by decide) : PE X (.Name x pos) (tE X.K W (bC (.rf a))) :=
  (pe_glob (v := .ref a) hg hm rfl hd).imp fun _ _ _ h => rC (fun _ _ => by simp only [RelP]) h

/-! ### kinds -/
/-- what isinstance asks of an own class -/
structure InsTy (K : PySem.W.Frag) (C : Addr) : Prop where
  cl : Cls K C
  ha : PySem.W.findIn K (.ref C) "__class__" = some (some (.builtin "object.__class__"))
  hn : PySem.W.specialIn K (.builtin "object.__class__") "__get__" = some (some (.builtin "getset_descriptor.__get__"))
  htk : PySem.W.takesIn K (.builtin "object.__class__") = some true
  hm : PySem.W.mroIn K C (.type "object") = some true
def tyA : AO → Value
  | .lst _ => .type "list"
  | .dic _ _ => .type "dict"
  | .ins C _ => .ref C
def tyP : P → Option Value
  | .non => some (.type "NoneType")
  | .bl _ => some (.type "bool")
  | .int _ => some (.type "int")
  | .str _ => some (.type "str")
  | .tup _ => some (.type "tuple")
  | .lst _ => some (.type "list")
  | .dic _ _ => some (.type "dict")
  | .obj C _ => some (.ref C)
  | _ => none
def tyD (d : D) (A : AH) : Option Value := match d with
  | .p x => tyP x
  | .ref i => match A[i]? with
    | some (some o) => some (tyA o)
    | _ => none
theorem ty_rel {L : Addr → Prop} {q : P} {v : V} {t : Value} (h : RelP K L H q v) (e : tyP q = some t) (hc : ∀ C, t = .ref C → InsTy K C) : TyX K H v t ∨ ∃ a o kvs, v = .ref a ∧ t = .type "dict" ∧ H a = some (.frz o (.dT kvs)) := by
  cases q with
  | non => simp only [RelP] at h; cases e; subst h; exact .inl (.base .non)
  | bl b => simp only [RelP] at h; cases e; subst h; exact .inl (.base (.bl b))
  | int b => simp only [RelP] at h; cases e; subst h; exact .inl (.base (.int b))
  | str b => simp only [RelP] at h; cases e; subst h; exact .inl (.base (.str b))
  | tup xs => simp only [RelP] at h; cases e; obtain ⟨a, vs, rfl, h, _⟩ := h; exact .inl (.base (.tup h))
  | ktup xs => cases e
  | lst xs =>
    simp only [RelP] at h; cases e
    obtain ⟨a, vs, rfl, _, h, _⟩ := h
    exact .inl (.base (.lst h))
  | klst xs => cases e
  | dic _ xs =>
    simp only [RelP] at h; cases e
    obtain ⟨a, rfl, _, h⟩ := h
    rcases h with ⟨_, l, h, _⟩ | ⟨_, l, h, _⟩
    · rcases h with h | ⟨o, h⟩
      · exact .inl (.base (.dK h))
      · exact .inl (.fDict h)
    · rcases h with h | ⟨o, h⟩
      · exact .inl (.base (.dT h))
      · exact .inr ⟨a, o, l, rfl, rfl, h⟩
  | obj C fs =>
    simp only [RelP] at h; cases e
    obtain ⟨a, dx, vs, rfl, _, h, _⟩ := h
    have q := hc C rfl
    exact .inl (.base (.ins h q.cl q.ha q.hn q.htk q.hm))
  | rf a => cases e
  | ty n => cases e
theorem tyD_rel (r : Rep K ρ A H) {d : D} {v : V} {t : Value} (h : RelD K ρ A H d v) (e : tyD d A = some t) (hc : ∀ C, t = .ref C → InsTy K C) : TyX K H v t ∨ ∃ a o kvs, v = .ref a ∧ t = .type "dict" ∧ H a = some (.frz o (.dT kvs)) := by
  cases d with
  | p q => exact ty_rel h e hc
  | ref i =>
    obtain ⟨a, hp, rfl⟩ := h
    unfold tyD at e
    cases hA : A[i]? with
    | none => simp only [hA] at e; cases e
    | some o0 =>
      cases o0 with
      | none => simp only [hA] at e; cases e
      | some o =>
        simp only [hA] at e; cases e
        have q := r.obj i a o hp hA
        cases o with
        | lst xs => obtain ⟨vs, h, _⟩ := q; exact .inl (.base (.lst h))
        | dic _ xs =>
          rcases q with ⟨_, l, h, _⟩ | ⟨_, l, h, _⟩
          · exact .inl (.base (.dK h))
          · exact .inl (.base (.dT h))
        | ins C fs =>
          obtain ⟨dx, vs, h, _⟩ := q
          have z := hc C rfl
          exact .inl (.base (.ins h z.cl z.ha z.hn z.htk z.hm))
theorem kit_dT {X : Cx} {pins : List (Addr × Obj)} {σ : St} {H : Hp} {s : Shared} {a : Addr} {o : Obj} {kvs : List (List Key × V)} (I : Inv X pins σ H s) (h : H a = some (.frz o (.dT kvs))) : ∃ P : Heap → Prop, PySem.W.KitX X.K (.ref a) (.type "dict") P ∧ P s.heap ∧ Value.ref a ≠ .builtin "__main__.__loader__#opaque" := by
  obtain ⟨_, _, _, xs, _, ob, es, ep, h1, h2, _⟩ := (show ObjOk X.prog X.w H s.heap a (.frz o (.dT kvs)) from I.hok a _ h)
  exact ⟨_, PySem.W.kitx_dict, ⟨ob, h1, h2.1⟩, fun z => nomatch z⟩
/-- the answers of isinstance for a value's type and a class: a table that the library's decider agrees with -/
structure IsiOk (K : PySem.W.Frag) (ans : Value → Value → Option Bool) : Prop where
  one : ∀ t u b, ans t u = some b → PySem.W.kitOne K t u = some b
  own : ∀ C u b, ans (.ref C) u = some b → InsTy K C
def clsP : P → Option Value
  | .ty n => some (.type n)
  | .rf a => some (.ref a)
  | _ => none
def clsPs : List P → Option (List Value)
  | [] => some []
  | x :: r => match clsP x, clsPs r with
    | some u, some us => some (u :: us)
    | _, _ => none
def ansAny (ans : Value → Value → Option Bool) (t : Value) : List Value → Option Bool
  | [] => some false
  | c :: r => match ans t c with
    | some true => some true
    | some false => ansAny ans t r
    | none => none
def oIsi (ans : Value → Value → Option Bool) : BL := fun ds A => match ds with
  | [d, .p c] => match tyD d A with
    | none => none
    | some t => match clsP c with
      | some u => (ans t u).map fun b => .val (.p (.bl b)) A
      | none => match tupOf (.p c) with
        | some cs => match clsPs cs with
          | some us => if us = [] then none else (ansAny ans t us).map fun b => .val (.p (.bl b)) A
          | none => none
        | none => none
  | _ => none
/-- what isinstance wants, whatever kind of value -/
def rIsiA (X : Cx) : List V → Hp → VK → Prop := fun vs H Q => ∃ x c b t, vs = [x, c] ∧ (∀ (pins : List (Addr × Obj)) (σ : St) (s : Shared) (u : Value), Inv X pins σ H s → RelV x u → ∃ P : Heap → Prop, PySem.W.KitX X.K u t P ∧ P s.heap ∧ u ≠ .builtin "__main__.__loader__#opaque") ∧
  ((∃ u, ClsV c u ∧ PySem.W.kitOne X.K t u = some b) ∨ ∃ a cs us, c = .ref a ∧ SqT X.K H a cs ∧ Paired ClsV cs us ∧ PySem.W.kitAny X.K t us = some b) ∧ Q (.bl b) H
theorem call_isiA : CallR X (.builtin "isinstance") (rIsiA X) := by
  intro pins s σ H xs us Q I r h
  obtain ⟨x, c, b, t, rfl, hk, hc, q⟩ := h
  obtain ⟨u1, u2, rfl, r1, r2⟩ := vals2 r
  obtain ⟨P, Z, p, hx⟩ := hk pins σ s u1 I r1
  rcases hc with ⟨u, k, e⟩ | ⟨a, cs, us, rfl, hs, k, e⟩
  · have e2 := k.eq r2
    subst e2
    exact PySem.W.kia_one Z I.kIn p e hx fun tk => ⟨.bl b, H, I.tok tk, rfl, q⟩
  · cases (show u2 = Value.ref a from r2)
    obtain ⟨its, rv, ⟨o, h1, h2, n, h3⟩, _⟩ := I.tuple hs
    have e3 := ClsV.all k rv
    subst e3
    obtain ⟨oc, od, dt, sl⟩ := o
    simp only at h2 h3
    subst h2 h3
    exact PySem.W.kia_tup Z I.kIn p h1 e hx fun tk => ⟨.bl b, H, I.tok tk, rfl, q⟩
theorem cls_rel {L : Addr → Prop} {q : P} {v : V} {u : Value} (h : RelP K L H q v) (e : clsP q = some u) : ClsV v u := by
  unfold clsP at e
  split at e
  · cases e; simp only [RelP] at h; subst h; exact .ty _
  · cases e; simp only [RelP] at h; subst h; exact .own _
  · cases e
theorem clss_rel {L : Addr → Prop} : ∀ {cs : List P} {vs : List V} {us : List Value}, RelPs K L H cs vs → clsPs cs = some us → Paired ClsV vs us
  | [], vs, us, h, e => by simp only [RelPs] at h; subst h; cases e; exact .nil
  | x :: r, vs, us, h, e => by
    simp only [RelPs] at h
    obtain ⟨v, w, rfl, a, b⟩ := h
    unfold clsPs at e
    cases q1 : clsP x with
    | none => rw [q1] at e; cases e
    | some u =>
      cases q2 : clsPs r with
      | none => rw [q1, q2] at e; cases e
      | some us' => rw [q1, q2] at e; cases e; exact .cons (cls_rel a q1) (clss_rel b q2)
theorem ansAny_ok {ans : Value → Value → Option Bool} (h : IsiOk K ans) {t : Value} : ∀ {us : List Value} {b : Bool}, ansAny ans t us = some b → PySem.W.kitAny K t us = some b
  | [], b, e => by cases e; rfl
  | c :: r, b, e => by
    unfold ansAny at e
    unfold PySem.W.kitAny
    cases q : ans t c with
    | none => rw [q] at e; cases e
    | some k =>
      rw [q] at e
      rw [h.one _ _ _ q]
      cases k with
      | true => exact e
      | false => exact ansAny_ok h e
theorem ansAny_own {ans : Value → Value → Option Bool} (h : IsiOk K ans) {C : Addr} {us : List Value} {b : Bool} (n : us ≠ []) (e : ansAny ans (.ref C) us = some b) : InsTy K C := by
  cases us with
  | nil => exact absurd rfl n
  | cons c r =>
    unfold ansAny at e
    cases q : ans (.ref C) c with
    | none => rw [q] at e; cases e
    | some k => exact h.own _ _ _ q
theorem l_isi {ans : Value → Value → Option Bool} (h : IsiOk X.K ans) : RLD X.K W (oIsi ans) (rIsiA X) := by
  intro ρ A σ H ds vs Q r rd o
  unfold oIsi at o
  split at o
  · rename_i d c
    obtain ⟨v, w, rfl, rv, w2, w3, e2, rc, e3⟩ := rd
    cases e3; subst e2
    cases ht : tyD d A with
    | none => rw [ht] at o; exact o.elim
    | some t =>
      rw [ht] at o
      simp only at o
      have kit : (∀ C, t = .ref C → InsTy X.K C) → ∀ (pins : List (Addr × Obj)) (σ : St) (s : Shared) (u : Value), Inv X pins σ H s → RelV v u → ∃ P : Heap → Prop, PySem.W.KitX X.K u t P ∧ P s.heap ∧ u ≠ .builtin "__main__.__loader__#opaque" := fun hc pins σ s u I rx => by
        rcases tyD_rel r rv ht hc with z | ⟨a, o, kvs, rfl, rfl, z⟩
        · exact kit_of I rx z
        · cases (show u = Value.ref a from rx); exact kit_dT I z
      cases hc : clsP c with
      | some u =>
        rw [hc] at o
        simp only at o
        cases ha : ans t u with
        | none => rw [ha] at o; exact o.elim
        | some b =>
          rw [ha] at o
          exact ⟨v, w2, b, t, rfl, kit fun C e => h.own C u b (by rw [← e]; exact ha), .inl ⟨u, cls_rel rc hc, h.one _ _ _ ha⟩, o ρ H _ (Step.refl r) (by simp only [RelD, RelP])⟩
      | none =>
        rw [hc] at o
        simp only at o
        cases ht2 : tupOf (.p c) with
        | none => rw [ht2] at o; exact o.elim
        | some cs =>
          rw [ht2] at o
          simp only at o
          obtain ⟨a, ws, rfl, hs, rp⟩ := rd_tup (d := .p c) rc ht2
          cases hu : clsPs cs with
          | none => rw [hu] at o; exact o.elim
          | some us =>
            rw [hu] at o
            simp only at o
            by_cases hn : us = []
            · rw [if_pos hn] at o; exact o.elim
            · rw [if_neg hn] at o
              cases ha : ansAny ans t us with
              | none => rw [ha] at o; exact o.elim
              | some b =>
                rw [ha] at o
                exact ⟨v, _, b, t, rfl, kit fun C e => ansAny_own h hn (by rw [← e]; exact ha), .inr ⟨a, ws, us, rfl, hs, clss_rel rp hu, ansAny_ok h ha⟩, o ρ H _ (Step.refl r) (by simp only [RelD, RelP])⟩
  · exact o.elim

/-! ### len, numbers -/
def oLen : BL := fun ds A => match ds with
  | [d] => match strOf d with
    | some x => if x.length ≤ sizeLine then some (.val (.p (.int x.length)) A) else none
    | none => match seqOf d A with
      | some xs => some (.val (.p (.int xs.length)) A)
      | none => match dicOf d A with
        | some (_, kvs) => some (.val (.p (.int kvs.length)) A)
        | none => none
  | _ => none
theorem RelKV.length {L : Addr → Prop} : ∀ {xs : List (P × P)} {l : List (Key × V)}, RelKV K L H xs l → xs.length = l.length
  | [], _, h => by simp only [RelKV] at h; subst h; rfl
  | (k, x) :: r, _, h => by
    simp only [RelKV] at h
    obtain ⟨q, v, w, rfl, _, _, h⟩ := h
    simp [RelKV.length h]
theorem RelTV.length {L : Addr → Prop} : ∀ {xs : List (P × P)} {l : List (List Key × V)}, RelTV K L H xs l → xs.length = l.length
  | [], _, h => by simp only [RelTV] at h; subst h; rfl
  | (k, x) :: r, _, h => by
    simp only [RelTV] at h
    obtain ⟨q, v, w, rfl, _, _, h⟩ := h
    simp [RelTV.length h]
/-- len of a dict whose keys are tuples, read -/
theorem call_len_dTR : CallR X (.builtin "len") (fun xs H Q => ∃ (p : Addr) (kvs : List (List Key × V)), xs = [.ref p] ∧ Rd H p (.dT kvs) ∧ Q (.int ((kvs.length : Nat) : Int)) H) := by
  intro pins s σ H xs us Q I r h
  obtain ⟨p, kvs, rfl, hp, q⟩ := h
  obtain ⟨u, rfl, ru⟩ := vals1 r
  obtain rfl : u = Value.ref p := ru
  obtain ⟨hz, hd, ws, kt, m⟩ := dt_rd I.hok hp
  have hl : kvs.length = ws.length := Paired.length kt
  rw [sizeLine_eq] at hz
  exact call_len_dictH hd m (by omega) ⟨.int kvs.length, H, I.tok _, ⟨_, by rw [hl]⟩, q⟩
theorem call_len_dKR : CallR X (.builtin "len") (fun xs H Q => ∃ (p : Addr) (kvs : List (Key × V)), xs = [.ref p] ∧ Rd H p (.dK kvs) ∧ Q (.int ((kvs.length : Nat) : Int)) H) := by
  intro pins s σ H xs us Q I r h
  obtain ⟨p, kvs, rfl, hp, q⟩ := h
  obtain ⟨u, rfl, ru⟩ := vals1 r
  obtain rfl : u = Value.ref p := ru
  exact d_len I hp fun t s' I' => ⟨.int kvs.length, H, I', ⟨t, rfl⟩, q⟩
abbrev rLenA (X : Cx) : List V → Hp → VK → Prop := fun xs H Q => (∃ x n, xs = [x] ∧ LenV X.K x H n ∧ Q (.int n) H) ∨ (∃ (p : Addr) (kvs : List (Key × V)), xs = [.ref p] ∧ Rd H p (.dK kvs) ∧ Q (.int ((kvs.length : Nat) : Int)) H) ∨ ∃ (p : Addr) (kvs : List (List Key × V)), xs = [.ref p] ∧ Rd H p (.dT kvs) ∧ Q (.int ((kvs.length : Nat) : Int)) H
theorem call_lenA : CallR X (.builtin "len") (rLenA X) := call_len.or (call_len_dKR.or call_len_dTR)
theorem l_len : RLD X.K W oLen (rLenA X) := by
  intro ρ A σ H ds vs Q r rd o
  unfold oLen at o
  split at o
  · rename_i d
    obtain ⟨v, w, rfl, rv, e3⟩ := rd
    cases e3
    cases h1 : strOf d with
    | some x =>
      simp only [h1] at o
      have ev := rd_str rv h1
      subst ev
      split at o
      · rename_i hz
        exact .inl ⟨_, x.length, rfl, ⟨hz, rfl⟩, o ρ H _ (Step.refl r) (by simp only [RelD, RelP])⟩
      · exact o.elim
    | none =>
      simp only [h1] at o
      cases h2 : seqOf d A with
      | some xs =>
        simp only [h2] at o
        obtain ⟨a, ws, rfl, hs, rp⟩ := rd_seq r rv h2
        refine .inl ⟨_, xs.length, rfl, ?_, o ρ H _ (Step.refl r) (by simp only [RelD, RelP])⟩
        exact hs.imp (fun h => ⟨ws, h, rp.length⟩) (fun h => ⟨ws, h, rp.length⟩)
      | none =>
        simp only [h2] at o
        cases h3 : dicOf d A with
        | none => simp only [h3] at o; exact o.elim
        | some tk =>
          obtain ⟨t, kvs⟩ := tk
          simp only [h3] at o
          obtain ⟨a, rfl, q⟩ := rd_dic r rv h3
          rcases q with ⟨_, l, q1, q2⟩ | ⟨_, l, q1, q2⟩
          · exact .inr (.inl ⟨a, l, rfl, q1, by rw [← RelKV.length q2]; exact o ρ H _ (Step.refl r) (by simp only [RelD, RelP])⟩)
          · exact .inr (.inr ⟨a, l, rfl, q1, by rw [← RelTV.length q2]; exact o ρ H _ (Step.refl r) (by simp only [RelD, RelP])⟩)
  · exact o.elim
def oAbs : BL := fun ds => match ds with
  | [.p (.int i)] => M.ret (.p (.int (if i < 0 then -i else i)))
  | _ => M.stuck
theorem l_abs : RLD K W oAbs (fun xs H Q => ∃ i, xs = [.int i] ∧ Q (.int (if i < 0 then -i else i)) H) := by
  intro ρ A σ H ds vs Q r rd o
  unfold oAbs at o
  split at o
  · rename_i i
    obtain ⟨v, w, rfl, rv, e3⟩ := rd
    cases e3
    simp only [RelD, RelP] at rv; subst rv
    exact ⟨i, rfl, OkE.ret r o (by simp only [RelD, RelP])⟩
  · exact o.elim
def o2L (g : Int → Int → Int) : BL := fun ds => match ds with
  | [.p (.int i), .p (.int j)] => M.ret (.p (.int (g i j)))
  | _ => M.stuck
theorem l_2 {g : Int → Int → Int} : RLD K W (o2L g) (fun xs H Q => ∃ i j, xs = [.int i, .int j] ∧ Q (.int (g i j)) H) := by
  intro ρ A σ H ds vs Q r rd o
  unfold o2L at o
  split at o
  · rename_i i j
    obtain ⟨v, w, rfl, rv, v2, w2, rfl, rv2, e3⟩ := rd
    cases e3
    simp only [RelD, RelP] at rv rv2; subst rv rv2
    exact ⟨i, j, rfl, OkE.ret r o (by simp only [RelD, RelP])⟩
  · exact o.elim
def oInt1 : BL := fun ds => match ds with
  | [.p (.int i)] => M.ret (.p (.int i))
  | [.p (.bl k)] => M.ret (.p (.int (if k then 1 else 0)))
  | _ => M.stuck
theorem l_int1 : RLD K W oInt1 (fun xs H Q => (∃ i, xs = [.int i] ∧ Q (.int i) H) ∨ ∃ k, xs = [.bl k] ∧ Q (.int (if k then 1 else 0)) H) := by
  intro ρ A σ H ds vs Q r rd o
  unfold oInt1 at o
  split at o
  · rename_i i
    obtain ⟨v, w, rfl, rv, e3⟩ := rd
    cases e3
    simp only [RelD, RelP] at rv; subst rv
    exact .inl ⟨i, rfl, OkE.ret r o (by simp only [RelD, RelP])⟩
  · rename_i i
    obtain ⟨v, w, rfl, rv, e3⟩ := rd
    cases e3
    simp only [RelD, RelP] at rv; subst rv
    exact .inr ⟨i, rfl, OkE.ret r o (by simp only [RelD, RelP])⟩
  · exact o.elim
open Classical in
noncomputable def oDivmod : BL := fun ds => match ds with
  | [.p (.int i), .p (.int j)] => if CDivP i j then M.ret (.p (.tup [.int (i / j), .int (i % j)])) else M.stuck
  | _ => M.stuck
theorem l_divmod : RLD K W oDivmod (fun xs H Q => ∃ i j, xs = [.int i, .int j] ∧ CDivP i j ∧ ∀ p, H p = none → Q (.ref p) (upd H p (.tup [.int (i / j), .int (i % j)]))) := by
  intro ρ A σ H ds vs Q r rd o
  unfold oDivmod at o
  split at o
  · rename_i i j
    obtain ⟨v, w, rfl, rv, v2, w2, rfl, rv2, e3⟩ := rd
    cases e3
    simp only [RelD, RelP] at rv rv2; subst rv rv2
    split at o
    · rename_i hc
      refine ⟨i, j, rfl, hc, fun p hp => ?_⟩
      exact o ρ _ _ (Step.laid r _ hp) (by simp only [RelD, RelP, RelPs]; exact ⟨p, _, rfl, upd_same, _, _, rfl, rfl, _, _, rfl, rfl, rfl⟩)
    · exact o.elim
  · exact o.elim

/-! ### subscripts -/
/-- xs[i] of a list, a tuple, a text; d[k] of a dict -/
def dicAt (kvs : List (P × P)) (k : P) : Option P := match keyOf k with
  | some q => (kvs.find? fun kv => decide (keyOf kv.1 = some q)).map (·.2)
  | none => match tkeyOf k with
    | some q => (kvs.find? fun kv => decide (tkeyOf kv.1 = some q)).map (·.2)
    | none => none
def oIx : D → D → M D := fun x y A => match intOf y with
  | none => none
  | some i => match seqOf x A with
    | some xs => match atI xs i with
      | some q => some (.val (.p q) A)
      | none => none
    | none => match strOf x with
      | some z => if z.length ≤ sizeLine then match atI z.cps.toList i with
          | some c => some (.val (.p (.str ⟨#[c]⟩)) A)
          | none => none
        else none
      | none => none
theorem atI_rel {L : Addr → Prop} {xs : List P} {vs : List V} {i : Int} {q : P} (h : RelPs K L H xs vs) (e : atI xs i = some q) : ∃ v, atI vs i = some v ∧ RelP K L H q v := by
  unfold atI at e ⊢
  rw [← h.length]
  cases hx : ixN xs.length i with
  | none => rw [hx] at e; cases e
  | some j =>
    rw [hx] at e
    exact RelPs.get h e
theorem r2_ix : R2D K W oIx (rIx K) := by
  intro ρ A σ H x y v u Q r rx ry o
  unfold oIx at o
  cases h0 : intOf y with
  | none => simp only [h0] at o; exact o.elim
  | some i =>
    simp only [h0] at o
    have ey := rd_int ry h0
    subst ey
    cases h1 : seqOf x A with
    | some xs =>
      simp only [h1] at o
      cases h2 : atI xs i with
      | none => simp only [h2] at o; exact o.elim
      | some q =>
        simp only [h2] at o
        obtain ⟨a, ws, rfl, hs, rp⟩ := rd_seq r rx h1
        obtain ⟨z, e1, e2⟩ := atI_rel rp h2
        rcases hs with hs | hs
        · exact .inl ⟨a, ws, i, z, rfl, rfl, hs, e1, o ρ H z (Step.refl r) e2⟩
        · exact .inr (.inl ⟨a, ws, i, z, rfl, rfl, hs, e1, o ρ H z (Step.refl r) e2⟩)
    | none =>
      simp only [h1] at o
      cases h3 : strOf x with
      | none => simp only [h3] at o; exact o.elim
      | some z =>
        simp only [h3] at o
        split at o
        · rename_i hz
          cases h4 : atI z.cps.toList i with
          | none => simp only [h4] at o; exact o.elim
          | some c =>
            simp only [h4] at o
            exact .inr (.inr ⟨z, i, c, rd_str rx h3, rfl, hz, h4, o ρ H _ (Step.refl r) (by simp only [RelD, RelP])⟩)
        · exact o.elim
theorem e_ix {fa fb : BE} {a b : Expr} (ha : PE X a (tE X.K W fa)) (hb : PE X b (tE X.K W fb)) (hs : PlainIx b) : PE X (.Subscript a b pos) (tE X.K W (bOp oIx fa fb)) :=
  (pe_ix ix_seq ha hb hs).imp fun _ _ _ h => rOp r2_ix h
/-- xs[i] = v, xs a mutable list -/
def gIxL (fo fi : BE) : BG := fun d σ A => match fo σ A with
  | some (.val (.ref j) A1) => match fi σ A1 with
    | some (.val (.p (.int i)) A2) => match A2[j]?, d with
      | some (some (.lst xs)), .p q => match ixN xs.length i with
        | some n => some (σ, A2.set j (some (.lst (xs.set n q))))
        | none => none
      | _, _ => none
    | _ => none
  | _ => none
theorem g_ixL {o i : Expr} {fo fi : BE} (ho : PE X o (tE X.K W fo)) (hi : PE X i (tE X.K W fi))
    (ha : ∀ v, assign (.Subscript o i pos) X.env v = (do
      let ov ← holding [v] (eval o X.env)
      let iv ← holding [v, ov] (eval i X.env)
      standAt pos
      holding [v, ov, iv] (setItem ov iv v)
      release [v, ov, iv] []) := by intro _; rfl) : PG X (.Subscript o i pos) (tGt X.K [] (gIxL fo fi)) := by
  refine (pg_sub ho hi set_list ha).imp fun v σ H Q ⟨ρ, A, σD, d, r, e, rd, ok⟩ => ?_
  refine ⟨ρ, A, σD, r, e, ?_⟩
  unfold gIxL at ok
  cases h1 : fo σD A with
  | none => rw [h1] at ok; exact ok.elim
  | some z =>
    rw [h1] at ok
    cases z with
    | exc x A1 => exact ok.elim
    | val d1 A1 =>
      cases d1 with
      | p _ => exact ok.elim
      | ref j =>
        simp only at ok
        intro ρ1 H1 vo s1 ro
        refine ⟨ρ1, A1, σD, s1.rep, e.step r s1, ?_⟩
        have ok1 := OkG.step s1 ok
        cases h2 : fi σD A1 with
        | none => rw [h2] at ok1; exact ok1.elim
        | some z =>
          rw [h2] at ok1
          cases z with
          | exc x A2 => exact ok1.elim
          | val d2 A2 =>
            intro ρ2 H2 vi s2 ri
            have ok2 := OkG.step s2 ok1
            cases d2 with
            | ref _ => exact ok2.elim
            | p q2 =>
              cases q2 with
              | int n =>
                simp only at ok2
                split at ok2
                · rename_i xs q hA
                  cases h3 : ixN xs.length n with
                  | none => rw [h3] at ok2; exact ok2.elim
                  | some k =>
                    rw [h3] at ok2
                    simp only [RelD, RelP] at ri
                    subst ri
                    obtain ⟨p, hp, rfl⟩ := ro.step s1.rep s2
                    obtain ⟨vs, g1, g2⟩ := s2.rep.obj j p _ hp hA
                    have rd2 := (rd.step r s1).step s1.rep s2
                    refine ⟨p, vs, n, k, rfl, rfl, g1, by rw [← g2.length]; exact h3, ?_⟩
                    have s3 := Step.write (u := .lst (xs.set k q)) (ho := .lst (vs.set k v)) s2.rep hp hA ⟨_, rfl, RelPs.set rd2 k g2⟩
                    exact ok2 ρ2 _ σ s3 (((e.step r s1).step s1.rep s2).step s2.rep s3) rfl fun _ _ => rfl
                · exact ok2.elim
              | _ => exact ok2.elim
end
end PF

/-! text PF7 -/
set_option Elab.async false
set_option linter.all false
set_option maxRecDepth 100000
set_option maxHeartbeats 1000000
/-! PF7: what is walked; list comprehensions. -/
namespace PF
open PySem L2 PySem.Spec PyProof.Rows

/-! ### enumerate of a tuple -/
def IteT (K : PySem.W.Frag) (a : Addr) : It :=
  ⟨fun i H => ∃ (xs : List V) (x : V), SqT K H a xs ∧ xs[i]? = some x, fun i H v H' => ∃ T x, v = .ref T ∧ H T = none ∧ H' = upd H T (.tup [.int (i : Nat), x]) ∧ ∀ xs, SqT K H a xs → xs[i]? = some x, fun i H => ∃ xs : List V, SqT K H a xs ∧ xs.length = i⟩
theorem turn_enumT {P : Program} {w : World} {K : PySem.W.Frag} {elts : List Expr} {kk : Nat} {tpos : Pos} (a e it : Addr) (hei : e ≠ it) (hea : e ≠ a) (hia : a ≠ it) :
    Turn P w K (.Tuple elts kk tpos) (IteT K a) [e, it] e (fun i h => (∃ old, IsEnum h e it ((i : Nat) : Int) old) ∧ h.IsTupleIter it a i) where
  mem := by simp
  obj := fun i h st b hb => by
    obtain ⟨⟨old, he⟩, ⟨o, ho, hc, hd⟩⟩ := st
    have e' : b = e ∨ b = it := by simpa using hb
    rcases e' with z | z
    · rw [z]; exact ⟨_, he, fun v q => nomatch q⟩
    · rw [z]; exact ⟨o, ho, fun v q => by rw [hd] at q; cases q⟩
  keep := fun i h h' st k => let ⟨⟨old, he⟩, hi⟩ := st; ⟨⟨old, k e (by simp) _ he⟩, hi.at fun o q => k it (by simp) o q⟩
  item := by
    intro X hP hw hK hc i pins s σ H E I hf st hg
    subst hP hw hK
    obtain ⟨⟨old, he⟩, hit⟩ := st
    obtain ⟨xs, x, hq, hx⟩ := hg
    obtain ⟨its, rv, p, hz⟩ := I.tuple hq
    obtain ⟨u, hu, ru⟩ := rv.get hx
    have hlt : i < its.toArray.size := by
      have := (List.getElem?_eq_some_iff.mp hu).1
      simpa using this
    have hel : e < s.heap.objs.size := Heap.lt_size he
    have hil : it < s.heap.objs.size := by obtain ⟨_, q, _⟩ := hit; exact Heap.lt_size q
    have hh : X.A.in1.handled = none := I.ok.hd hc
    have W := GoesN.enumFrom (elts := elts) (x1 := kk) (pos := tpos) (prog := X.prog) (w := X.w) (A := X.A) 0 (Draws.tuple hh it a hia its.toArray) e hei (by simp [hei, hea]) (by simp)
    have e0 : ((0 : Int) + (i : Int)) = (i : Int) := by omega
    refine W.goes i s _ E hlt ⟨⟨old, by rw [e0]; exact he⟩, hit, p⟩ fun v h' tk hY st' hk htk => ?_
    obtain ⟨T, t, y, rfl, hT, hy, o, ho, hoc, n, hod⟩ := hY
    have ey : y = u := by
      have : its[i]? = some y := by simpa using hy
      rw [hu] at this; cases this; rfl
    subst ey
    obtain ⟨⟨old', he'⟩, hit', _⟩ := st'
    have new : ObjOk X.prog X.w (upd H T (.tup [.int (i : Nat), x])) h' T (.tup [.int (i : Nat), x]) :=
      ⟨by show 2 ≤ sizeLine; decide, [.int i t, y], .cons ⟨_, rfl⟩ (.cons ru .nil), ⟨_, ho, hoc, n, by rw [hod, e0]⟩⟩
    have I1 : Inv X pins σ (upd H T (.tup [.int (i : Nat), x])) { s with heap := h', toks := tk } :=
      I.turnedNew (ch := [e, it]) (fun b ob hb q => hk b ob hb q) hf hT new
    refine ⟨.ref T, _, I1, rfl, ⟨T, x, rfl, I.hok.fresh hT, rfl, fun ys hy => by rw [I.tuple_inj hy hq]; exact hx⟩, ⟨⟨old', ?_⟩, hit'⟩, fun b hb => ?_⟩
    · have e1 : ((i + 1 : Nat) : Int) = (0 : Int) + ((i + 1 : Nat) : Int) := by omega
      rw [e1]; exact he'
    · have hb' : b < s.heap.objs.size := by
        have e' : b = e ∨ b = it := by simpa using hb
        rcases e' with z | z
        · rw [z]; exact hel
        · rw [z]; exact hil
      rw [upd_ne (Nat.ne_of_lt (Nat.lt_of_lt_of_le hb' hT))]
      exact (hf b hb).1
  done := by
    intro X hP hw hK hc i pins s σ H E I hf st hg
    subst hP hw hK
    obtain ⟨⟨old, he⟩, hit⟩ := st
    obtain ⟨xs, hq, hx⟩ := hg
    obtain ⟨its, rv, p, hz⟩ := I.tuple hq
    have hl := rv.length
    have hh : X.A.in1.handled = none := I.ok.hd hc
    have W := GoesN.enumFrom (elts := elts) (x1 := kk) (pos := tpos) (prog := X.prog) (w := X.w) (A := X.A) 0 (Draws.tuple hh it a hia its.toArray) e hei (by simp [hei, hea]) (by simp)
    have hi : i = its.toArray.size := by simp; omega
    have e0 : ((0 : Int) + (its.toArray.size : Int)) = (its.toArray.size : Int) := by omega
    rw [hi] at he hit
    exact W.stops s (fun s1 => Inv X pins σ H s1) E ⟨⟨old, by rw [e0]; exact he⟩, hit, p⟩ fun h' tk hk _ => I.turnedL (t' := tk) (ch := [e, it]) hk hf
  self := fun A i s Q E st h => let ⟨⟨_, he⟩, _⟩ := st; wpAny_pyIter_enum he h
theorem meets_enumerate_newT (l : Addr) (items : Array Value) (n : Nat) (dct : Option Addr) (sl : Array (Option Value)) :
    Meets (Builtin.«enumerate.__new__» ⟨[.type "enumerate", .ref l], []⟩) (fun _ R s => s.heap.get? l = some { cls := .type "tuple", dict := dct, data := .seq items n, slots := sl } ∧
      R (.ok (.ret (.ref (s.heap.push { cls := .type "tuple_iterator", data := .fields #[.ref l, .int 0 0] }).objs.size)))
        { s with heap := (s.heap.push { cls := .type "tuple_iterator", data := .fields #[.ref l, .int 0 0] }).push { cls := .type "enumerate", data := .fields #[.none, .bool false, .ref s.heap.objs.size, rawInt 0, .none, .none] } }) :=
  .of_wp fun prog w A R s h => by
    obtain ⟨hp, g, d, tk, os⟩ := s; obtain ⟨hl, h⟩ := h
    have hsub := sub_enumerate
    have hL : Heap.IsTuple (Shared.heap ⟨hp, g, d, tk, os⟩) l items := ⟨_, hl, rfl, n, rfl⟩
    wp_walk using AutoSeq1.wpAny_loadPart' hl
    refine wpAny_stack_any fun st => wpAny_pure ?_
    split
    · rename_i c _ _ _ _ _
      cases (c == Value.type "enumerate")
      · wp_walk using AutoSeq1.wpAny_loadPart' hl, wpAny_pyIter_tuple hL
        exact ⟨_, rfl, h⟩
      · wp_walk using AutoSeq1.wpAny_loadPart' hl, wpAny_pyIter_tuple hL
        exact ⟨_, rfl, h⟩
    · wp_walk using AutoSeq1.wpAny_loadPart' hl, wpAny_pyIter_tuple hL
      exact ⟨_, rfl, h⟩
theorem call_enumerate_tuple {prog : Program} {w : World} {A : Around} {E : Value → Shared → Prop} {s : Shared} {l : Addr} {items : Array Value} {Q : Value → Shared → Prop} (hL : s.heap.IsTuple l items)
    (h : ∀ h', IsEnum h' (s.heap.objs.size + 1) s.heap.objs.size 0 .none → h'.IsTupleIter s.heap.objs.size l 0 → h'.objs.size = s.heap.objs.size + 2 →
      (∀ b o, s.heap.get? b = some o → h'.get? b = some o) → Q (.ref (s.heap.objs.size + 1)) { s with heap := h' }) :
    wpAny (model prog w) A (call (.type "enumerate") [.ref l]) Q E s := by
  obtain ⟨⟨c, dct, dt, sl⟩, hl, hc, n, hd⟩ := hL
  replace hc : c = .type "tuple" := hc
  replace hd : dt = .seq items n := hd
  subst hc hd
  refine callType_new F.called_enumerate (by decide) (F.typeCall_enumerate_1 _) (F.newCall_enumerate_1 _) (fun obj => F.args_object_init_2 obj _) F.entry_enumerate_new
    (meets_enumerate_newT l items n dct sl) ⟨hl, ?_⟩
  have hz : (s.heap.push { cls := .type "tuple_iterator", data := .fields #[.ref l, .int 0 0] }).objs.size = s.heap.objs.size + 1 := Heap.size_push ..
  show _ ∧ _
  rw [hz]
  have he : IsEnum ((s.heap.push { cls := .type "tuple_iterator", data := .fields #[.ref l, .int 0 0] }).push
      { cls := .type "enumerate", data := .fields #[.none, .bool false, .ref s.heap.objs.size, rawInt 0, .none, .none] }) (s.heap.objs.size + 1) s.heap.objs.size 0 .none := by
    have := Heap.get?_push_size (s.heap.push { cls := .type "tuple_iterator", data := .fields #[.ref l, .int 0 0] })
      (o := { cls := .type "enumerate", data := .fields #[.none, .bool false, .ref s.heap.objs.size, rawInt 0, .none, .none] }) rfl
    rw [hz] at this; exact this
  refine ⟨⟨_, he, rfl⟩, h _ he ⟨_, Heap.get?_push_of_some _ (Heap.get?_push_size _ rfl), rfl, rfl⟩ (by rw [Heap.size_push, hz]) fun b o x => Heap.get?_push_of_some _ (Heap.get?_push_of_some _ x)⟩
def iEnumT (K : PySem.W.Frag) (ta : TA) : TI := fun σ H R => ta σ H fun vs H1 => ∃ a xs, vs = [.ref a] ∧ ((SqL K H1 a xs ∧ R (Ite K a) H1) ∨ (SqT K H1 a xs ∧ R (IteT K a) H1))
/-- enumerate of a list or a tuple -/
theorem pi_enumA {X : Cx} {e : Expr} {ta : TA} {p pos tpos : Pos} {elts : List Expr} {kk : Nat} (hg : Gl X "enumerate") (hm : X.mg "enumerate" = none) (ha : PA X [e] ta) (hs : starEach [e] X.env = [(false, eval e X.env)] := by rfl) :
    PI X (.Tuple elts kk tpos) (.Call (.Name "enumerate" p) [e] [] pos) (iEnumT X.K ta) := by
  refine ⟨fun pins s σ H R I h => ?_⟩
  refine Call_ (ld_blt I hg hm boot_enumerate (PyProof.Rows.callWith_type1 (thn (ha.run pos pins s σ H _ I h) fun us s1 ⟨vs, H1, I1, r1, q1⟩ => ?_) hs rfl))
  obtain ⟨a, xs, ex, q⟩ := q1
  subst ex
  cases r1 with
  | cons r rr =>
    cases rr
    cases r
    have fr : ∀ b ∈ [s1.heap.objs.size + 1, s1.heap.objs.size], FpOk X pins H1 b := fun b hb => by
      have e' : b = s1.heap.objs.size + 1 ∨ b = s1.heap.objs.size := by simpa using hb
      have hle : s1.heap.objs.size ≤ b := by
        rcases e' with z | z
        · rw [z]; exact Nat.le_add_right _ _
        · rw [z]; exact Nat.le_refl _
      exact I1.fpOk hle (I1.hok.fresh hle)
    rcases q with ⟨hq, q⟩ | ⟨hq, q⟩
    · obtain ⟨its, rv, p', hz⟩ := I1.list hq
      refine call_enumerate_list p'.isList fun h' he hit hsz hk => wpAny_pyIter_enum he ?_
      have I2 : Inv X pins σ H1 { s1 with heap := h' } := I1.kept (t' := s1.toks) hk
      exact ⟨s1.heap.objs.size + 1, [s1.heap.objs.size + 1, s1.heap.objs.size], _, _, H1, rfl, I2, turn_enum a (s1.heap.objs.size + 1) s1.heap.objs.size, ⟨⟨.none, he⟩, hit, Nat.succ_ne_self _⟩, fr, q⟩
    · obtain ⟨its, rv, p', hz⟩ := I1.tuple hq
      obtain ⟨oa, hoa, _⟩ := id p'
      have hal := Heap.lt_size hoa
      refine call_enumerate_tuple (show s1.heap.IsTuple a its.toArray from p') fun h' he hit hsz hk => wpAny_pyIter_enum he ?_
      have I2 : Inv X pins σ H1 { s1 with heap := h' } := I1.kept (t' := s1.toks) hk
      exact ⟨s1.heap.objs.size + 1, [s1.heap.objs.size + 1, s1.heap.objs.size], _, _, H1, rfl, I2, turn_enumT a (s1.heap.objs.size + 1) s1.heap.objs.size (Nat.succ_ne_self _) (Nat.ne_of_gt (Nat.lt_succ_of_lt hal)) (Nat.ne_of_lt hal), ⟨⟨.none, he⟩, hit⟩, fr, q⟩
/-- a list or a tuple, walked -/
def iSeq (K : PySem.W.Frag) (tl : TE) : TI := fun σ H R => tl σ H fun x H1 => ∃ a xs, x = .ref a ∧ ((SqL K H1 a xs ∧ R (Itl K a) H1) ∨ (SqT K H1 a xs ∧ R (Itt K a) H1))
theorem pi_seq {X : Cx} {tg l : Expr} {tl : TE} (hl : PE X l tl) : PI X tg l (iSeq X.K tl) := by
  refine ⟨fun pins s σ H R I h => ?_⟩
  refine thn (hl.run pins s σ H _ I h) fun v s1 ⟨x, H1, I1, r1, q1⟩ => ?_
  obtain ⟨a, xs, e, q⟩ := q1
  subst e
  cases r1
  have fr : ∀ b ∈ [s1.heap.objs.size], FpOk X pins H1 b := fun b hb => by
    have e : b = s1.heap.objs.size := by simpa using hb
    subst e
    exact I1.fpOk (Nat.le_refl _) (I1.hok.fresh (Nat.le_refl _))
  rcases q with ⟨hq, q⟩ | ⟨hq, q⟩
  · obtain ⟨its, rv, p, hz⟩ := I1.list hq
    refine wpAny_pyIter_list p.isList ?_
    exact ⟨s1.heap.objs.size, [s1.heap.objs.size], _, _, H1, rfl, I1.kept (t' := s1.toks) fun b o e => Heap.get?_push_of_some _ e, turn_list a _, ⟨_, Heap.get?_push_size _ rfl, rfl, rfl⟩, fr, q⟩
  · obtain ⟨its, rv, p, hz⟩ := I1.tuple hq
    refine wpAny_pyIter_tuple (show s1.heap.IsTuple a its.toArray from p) ?_
    exact ⟨s1.heap.objs.size, [s1.heap.objs.size], _, _, H1, rfl, I1.kept (t' := s1.toks) fun b o e => Heap.get?_push_of_some _ e, turn_tuple a _, ⟨_, Heap.get?_push_size _ rfl, rfl, rfl⟩, fr, q⟩

/-! ### walked things as functions -/
/-- a pure list or tuple -/
def pureSeq (d : D) : Option (List P) := match d with
  | .p (.lst xs) => some xs
  | .p (.klst xs) => some xs
  | .p (.tup xs) => some xs
  | .p (.ktup xs) => some xs
  | _ => none
def bSeq (f : BE) : BI := fun σ => (f σ).bind fun d => match pureSeq d with
  | some xs => M.ret xs
  | none => M.stuck
def bRange1 (a : BA) : BI := fun σ => (a σ).bind fun ds => match ds with
  | [.p (.int j)] => M.need (-(2 ^ 62) ≤ j ∧ j < 2 ^ 62) (M.ret ((List.range j.toNat).map fun (k : Nat) => P.int (0 + (k : Int))))
  | _ => M.stuck
def bRange2 (a : BA) : BI := fun σ => (a σ).bind fun ds => match ds with
  | [.p (.int i), .p (.int j)] => M.need (-(2 ^ 62) ≤ i ∧ i < 2 ^ 62 ∧ -(2 ^ 62) ≤ j ∧ j < 2 ^ 62) (M.ret ((List.range (j - i).toNat).map fun (k : Nat) => P.int (i + (k : Int))))
  | _ => M.stuck
def bSigns (f : BE) : BI := fun σ => (f σ).bind fun d => match strOf d with
  | some z => M.ret (z.cps.toList.map fun c => .str ⟨#[c]⟩)
  | none => M.stuck
def enumP (xs : List P) : List P := xs.mapIdx fun i x => .tup [.int (i : Nat), x]
def bEnum (a : BA) : BI := fun σ => (a σ).bind fun ds => match ds with
  | [d] => match pureSeq d with
    | some xs => M.ret (enumP xs)
    | none => M.stuck
  | _ => M.stuck
def zipP (xs ys : List P) : List P := List.zipWith (fun x y => .tup [x, y]) xs ys
def isTupD : D → Bool
  | .p (.lst _) => false
  | .p (.klst _) => false
  | _ => true
def bZip (a : BA) : BI := fun σ => (a σ).bind fun ds => match ds with
  | [d, e] => match pureSeq d, pureSeq e with
    | some xs, some ys => if isTupD d = isTupD e then M.ret (zipP xs ys) else M.stuck
    | _, _ => M.stuck
  | _ => M.stuck
section
variable {X : Cx} {W : WX} {K : PySem.W.Frag} {ρ ρ' : List Addr} {A A' : AH} {H H' : Hp} {σ : St}
/-- a pure sequence stays -/
theorem pureSeq_rel {d : D} {v : V} {xs : List P} (h : RelD K ρ A H d v) (e : pureSeq d = some xs) : ∃ a vs, v = .ref a ∧ RelPs K (Lv ρ A) H xs vs ∧ ((SqL K H a vs ∧ isTupD d = false ∧ ∀ ρ' A' H', Rep K ρ A H → Step K ρ A H ρ' A' H' → SqL K H' a vs) ∨ (SqT K H a vs ∧ isTupD d = true ∧ ∀ ρ' A' H', Rep K ρ A H → Step K ρ A H ρ' A' H' → SqT K H' a vs)) := by
  unfold pureSeq at e
  split at e
  · cases e
    simp only [RelD, RelP] at h
    obtain ⟨a, vs, rfl, n, s, r⟩ := h
    exact ⟨a, vs, rfl, r, .inl ⟨.inl (.inl s), rfl, fun ρ' A' H' _ st => .inl (.inl (st.keep.at id s n))⟩⟩
  · cases e
    simp only [RelD, RelP] at h
    obtain ⟨a, vs, rfl, s, r⟩ := h
    exact ⟨a, vs, rfl, r, .inl ⟨s.sq, rfl, fun ρ' A' H' _ st => s.imp (fun ⟨n, s⟩ => rdKeep st.keep s n) fun h => h⟩⟩
  · cases e
    simp only [RelD, RelP] at h
    obtain ⟨a, vs, rfl, s, r⟩ := h
    exact ⟨a, vs, rfl, r, .inr ⟨SqT.of s, rfl, fun ρ' A' H' rp st => sqtKeep st.keep rp.tup (SqT.of s)⟩⟩
  · cases e
    simp only [RelD, RelP] at h
    obtain ⟨a, vs, rfl, s, r⟩ := h
    exact ⟨a, vs, rfl, r, .inr ⟨s, rfl, fun ρ' A' H' rp st => sqtKeep st.keep rp.tup s⟩⟩
  · cases e
theorem rit_seqL {a : Addr} {xs : List P} {vs : List V} (r : Rep K ρ A H) (rp : RelPs K (Lv ρ A) H xs vs) (k : ∀ ρ' A' H', Step K ρ A H ρ' A' H' → SqL K H' a vs) : RIt K ρ A H xs (Itl K a) := by
  intro ρ' A' H' s
  have q := k ρ' A' H' s
  refine ⟨fun i p hp => ?_, ⟨vs, q, by rw [rp.length]; exact Nat.le_refl _⟩⟩
  obtain ⟨v, h1, h2⟩ := (rp.step r s).get hp
  exact ⟨⟨vs, v, q, h1⟩, fun x H'' ⟨e, hy⟩ => by
    subst e
    have := hy vs q
    rw [h1] at this; cases this
    exact ⟨Step.refl s.rep, h2⟩⟩
theorem rit_seqT {a : Addr} {xs : List P} {vs : List V} (r : Rep K ρ A H) (rp : RelPs K (Lv ρ A) H xs vs) (k : ∀ ρ' A' H', Step K ρ A H ρ' A' H' → SqT K H' a vs) : RIt K ρ A H xs (Itt K a) := by
  intro ρ' A' H' s
  have q := k ρ' A' H' s
  refine ⟨fun i p hp => ?_, ⟨vs, q, by rw [rp.length]; exact Nat.le_refl _⟩⟩
  obtain ⟨v, h1, h2⟩ := (rp.step r s).get hp
  exact ⟨⟨vs, v, q, h1⟩, fun x H'' ⟨e, hy⟩ => by
    subst e
    have := hy vs q
    rw [h1] at this; cases this
    exact ⟨Step.refl s.rep, h2⟩⟩
theorem i_seq {tg l : Expr} {f : BE} (h : PE X l (tE X.K W f)) : PI X tg l (tI X.K W (bSeq f)) := by
  refine (pi_seq h).imp fun σ H R h => ?_
  refine tG.mono (tG.bind (f := f) h) fun v H1 ⟨ρ1, A1, σD, d, r, e, rd, o⟩ => ?_
  cases q : pureSeq d with
  | none => rw [q] at o; exact o.elim
  | some xs =>
    rw [q] at o
    obtain ⟨a, vs, rfl, rp, z⟩ := pureSeq_rel rd q
    rcases z with ⟨s1, _, k⟩ | ⟨s1, _, k⟩
    · exact ⟨a, vs, rfl, .inl ⟨s1, OkE.ret r o (rit_seqL r rp fun ρ' A' H' s => k ρ' A' H' r s)⟩⟩
    · exact ⟨a, vs, rfl, .inr ⟨s1, OkE.ret r o (rit_seqT r rp fun ρ' A' H' s => k ρ' A' H' r s)⟩⟩
theorem rit_range {lo : Int} {n : Nat} : RIt K ρ A H ((List.range n).map fun (k : Nat) => P.int (lo + (k : Int))) (Itr lo n) := by
  intro ρ' A' H' s
  refine ⟨fun i p hp => ?_, by show n ≤ _; simp⟩
  rw [List.getElem?_map] at hp
  have hi : i < n := by
    have := (List.getElem?_eq_some_iff.mp (show ((List.range n).map fun (k : Nat) => P.int (lo + (k : Int)))[i]? = some p by rw [List.getElem?_map]; exact hp)).1
    simpa using this
  rw [List.getElem?_range hi] at hp
  cases hp
  exact ⟨hi, fun x H'' ⟨e, hy⟩ => by subst e hy; exact ⟨Step.refl s.rep, by simp only [RelP]⟩⟩
theorem i_range1 {tg a : Expr} {f : BA} {p pos : Pos} (hg : Gl X "range") (hm : X.mg "range" = none) (ha : PA X [a] (tA X.K W f)) (hs : starEach [a] X.env = [(false, eval a X.env)] := by rfl) : PI X tg (.Call (.Name "range" p) [a] [] pos) (tI X.K W (bRange1 f)) := by
  refine (pi_range1 hg hm ha hs).imp fun σ H R h => ?_
  refine tG.mono (tG.bind (f := f) h) fun v H1 ⟨ρ1, A1, σD, ds, r, e, rd, o⟩ => ?_
  split at o
  · rename_i j
    obtain ⟨v1, w1, rfl, rv, e3⟩ := rd
    cases e3
    simp only [RelD, RelP] at rv; subst rv
    obtain ⟨c, o⟩ := need_ok o
    exact ⟨j, rfl, c.1, c.2, OkE.ret r o rit_range⟩
  · exact o.elim
theorem i_range2 {tg a b : Expr} {f : BA} {p pos : Pos} (hg : Gl X "range") (hm : X.mg "range" = none) (ha : PA X [a, b] (tA X.K W f)) (hs : starEach [a, b] X.env = [(false, eval a X.env), (false, eval b X.env)] := by rfl) (hs2 : starEach [b] X.env = [(false, eval b X.env)] := by rfl) :
    PI X tg (.Call (.Name "range" p) [a, b] [] pos) (tI X.K W (bRange2 f)) := by
  refine (pi_range2 hg hm ha hs hs2).imp fun σ H R h => ?_
  refine tG.mono (tG.bind (f := f) h) fun v H1 ⟨ρ1, A1, σD, ds, r, e, rd, o⟩ => ?_
  split at o
  · rename_i i j
    obtain ⟨v1, w1, rfl, rv, v2, w2, rfl, rv2, e3⟩ := rd
    cases e3
    simp only [RelD, RelP] at rv rv2; subst rv rv2
    obtain ⟨c, o⟩ := need_ok o
    exact ⟨i, j, rfl, c, OkE.ret r o rit_range⟩
  · exact o.elim
theorem i_signs {tg l : Expr} {f : BE} (h : PE X l (tE X.K W f)) : PI X tg l (tI X.K W (bSigns f)) := by
  refine (pi_str h).imp fun σ H R h => ?_
  refine tG.mono (tG.bind (f := f) h) fun v H1 ⟨ρ1, A1, σD, d, r, e, rd, o⟩ => ?_
  cases q : strOf d with
  | none => rw [q] at o; exact o.elim
  | some z =>
    rw [q] at o
    refine ⟨z, rd_str rd q, OkE.ret r o ?_⟩
    intro ρ' A' H' s
    refine ⟨fun i p hp => ?_, by show z.cps.size ≤ _; simp⟩
    rw [List.getElem?_map] at hp
    cases hc : z.cps.toList[i]? with
    | none => rw [hc] at hp; cases hp
    | some c =>
      rw [hc] at hp; cases hp
      have hc' : z.cps[i]? = some c := by simpa using hc
      have hi : i < z.cps.size := (Array.getElem?_eq_some_iff.mp hc').1
      refine ⟨hi, fun x H'' ⟨e, c', h1, h2⟩ => ?_⟩
      subst e h2
      rw [hc'] at h1; cases h1
      exact ⟨Step.refl s.rep, by simp only [RelP]⟩
/-- a new pair of what stands -/
theorem pair_new {T : Addr} {x y : P} {v u : V} (r : Rep K ρ A H) (hT : H T = none) (h1 : RelP K (Lv ρ A) H x v) (h2 : RelP K (Lv ρ A) H y u) : Step K ρ A H ρ A (upd H T (.tup [v, u])) ∧ RelP K (Lv ρ A) (upd H T (.tup [v, u])) (.tup [x, y]) (.ref T) := by
  have s := Step.laid r (.tup [v, u]) hT
  refine ⟨s, ?_⟩
  simp only [RelP, RelPs]
  exact ⟨T, [v, u], rfl, upd_same, _, _, rfl, h1.step r s, _, _, rfl, h2.step r s, rfl⟩
theorem i_enum {e : Expr} {f : BA} {p pos tpos : Pos} {elts : List Expr} {kk : Nat} (hg : Gl X "enumerate") (hm : X.mg "enumerate" = none) (ha : PA X [e] (tA X.K W f)) (hs : starEach [e] X.env = [(false, eval e X.env)] := by rfl) :
    PI X (.Tuple elts kk tpos) (.Call (.Name "enumerate" p) [e] [] pos) (tI X.K W (bEnum f)) := by
  refine (pi_enumA hg hm ha hs).imp fun σ H R h => ?_
  refine tG.mono (tG.bind (f := f) h) fun v H1 ⟨ρ1, A1, σD, ds, r, e, rd, o⟩ => ?_
  split at o
  · rename_i d
    obtain ⟨v1, w1, rfl, rv, e3⟩ := rd
    cases e3
    cases q : pureSeq d with
    | none => rw [q] at o; exact o.elim
    | some xs =>
      rw [q] at o
      obtain ⟨a, vs, rfl, rp, z⟩ := pureSeq_rel rv q
      have get : ∀ {i : Nat} {pp : P}, (enumP xs)[i]? = some pp → ∃ x, xs[i]? = some x ∧ pp = .tup [.int (i : Nat), x] := fun {i pp} h => by
        unfold enumP at h
        rw [List.getElem?_mapIdx] at h
        cases hx : xs[i]? with
        | none => rw [hx] at h; cases h
        | some x => rw [hx] at h; cases h; exact ⟨x, rfl, rfl⟩
      have hlen : (enumP xs).length = xs.length := by unfold enumP; simp
      rcases z with ⟨s1, _, k⟩ | ⟨s1, _, k⟩
      · refine ⟨a, vs, rfl, .inl ⟨s1, OkE.ret r o ?_⟩⟩
        intro ρ' A' H' s
        have q := k ρ' A' H' r s
        refine ⟨fun i pp hp => ?_, ⟨vs, q, by rw [hlen, rp.length]; exact Nat.le_refl _⟩⟩
        obtain ⟨x, hx, rfl⟩ := get hp
        obtain ⟨v, h1, h2⟩ := (rp.step r s).get hx
        refine ⟨⟨vs, v, q, h1⟩, fun y H'' ⟨T, y', e1, e2, e3, e4⟩ => ?_⟩
        subst e1 e3
        have := e4 vs q
        rw [h1] at this; cases this
        exact pair_new s.rep e2 (by simp only [RelP]) h2
      · refine ⟨a, vs, rfl, .inr ⟨s1, OkE.ret r o ?_⟩⟩
        intro ρ' A' H' s
        have q := k ρ' A' H' r s
        refine ⟨fun i pp hp => ?_, ⟨vs, q, by rw [hlen, rp.length]⟩⟩
        obtain ⟨x, hx, rfl⟩ := get hp
        obtain ⟨v, h1, h2⟩ := (rp.step r s).get hx
        refine ⟨⟨vs, v, q, h1⟩, fun y H'' ⟨T, y', e1, e2, e3, e4⟩ => ?_⟩
        subst e1 e3
        have := e4 vs q
        rw [h1] at this; cases this
        exact pair_new s.rep e2 (by simp only [RelP]) h2
  · exact o.elim
theorem zipP_get {xs ys : List P} {i : Nat} {pp : P} (h : (zipP xs ys)[i]? = some pp) : ∃ x y, xs[i]? = some x ∧ ys[i]? = some y ∧ pp = .tup [x, y] := by
  unfold zipP at h
  rw [List.getElem?_zipWith] at h
  cases hx : xs[i]? with
  | none => rw [hx] at h; cases h
  | some x =>
    cases hy : ys[i]? with
    | none => rw [hx, hy] at h; cases h
    | some y => rw [hx, hy] at h; cases h; exact ⟨x, y, rfl, rfl, rfl⟩
theorem i_zip {e e2 : Expr} {f : BA} {p pos tpos : Pos} {elts : List Expr} {kk : Nat} (hg : Gl X "zip") (hm : X.mg "zip" = none) (ha : PA X [e, e2] (tA X.K W f))
    (hs : starEach [e, e2] X.env = (false, eval e X.env) :: starEach [e2] X.env := by rfl) (hpl : (backTo pos (starEach [e2] X.env)).any (·.1) = false := by rfl) :
    PI X (.Tuple elts kk tpos) (.Call (.Name "zip" p) [e, e2] [] pos) (tI X.K W (bZip f)) := by
  refine (RZ.pi_zipA hg hm ha hs hpl).imp fun σ H R h => ?_
  refine tG.mono (tG.bind (f := f) h) fun v H1 ⟨ρ1, A1, σD, ds, r, e, rd, o⟩ => ?_
  split at o
  · rename_i d d2
    obtain ⟨v1, w1, rfl, rv, v2, w2, rfl, rv2, e3⟩ := rd
    cases e3
    cases q1 : pureSeq d with
    | none => rw [q1] at o; exact o.elim
    | some xs =>
    cases q2 : pureSeq d2 with
    | none => rw [q1, q2] at o; exact o.elim
    | some ys =>
      rw [q1, q2] at o
      dsimp only at o
      split at o
      · rename_i ht
        obtain ⟨a, vs, rfl, rp, z⟩ := pureSeq_rel rv q1
        obtain ⟨b, us, rfl, rp2, z2⟩ := pureSeq_rel rv2 q2
        have hl1 := rp.length
        have hl2 := rp2.length
        have hlen : (zipP xs ys).length = min xs.length ys.length := by unfold zipP; simp
        rcases z with ⟨s1, t1, k⟩ | ⟨s1, t1, k⟩
        · rcases z2 with ⟨s2, t2, k2⟩ | ⟨s2, t2, k2⟩
          · refine ⟨a, b, vs, us, rfl, .inl ⟨s1, s2, OkE.ret r o ?_⟩⟩
            intro ρ' A' H' s
            have q := k ρ' A' H' r s
            have q' := k2 ρ' A' H' r s
            refine ⟨fun i pp hp => ?_, ⟨vs, us, q, q', by omega⟩⟩
            obtain ⟨x, y, hx, hy, rfl⟩ := zipP_get hp
            obtain ⟨v, h1, h2⟩ := (rp.step r s).get hx
            obtain ⟨u, h3, h4⟩ := (rp2.step r s).get hy
            refine ⟨⟨vs, us, v, u, q, q', h1, h3⟩, fun y H'' ⟨T, x', y', e1, e2, e3, e4, e5⟩ => ?_⟩
            subst e1 e3
            have g1 := e4 vs q
            have g2 := e5 us q'
            rw [h1] at g1; cases g1
            rw [h3] at g2; cases g2
            exact pair_new s.rep e2 h2 h4
          · rw [t1, t2] at ht; cases ht
        · rcases z2 with ⟨s2, t2, k2⟩ | ⟨s2, t2, k2⟩
          · rw [t1, t2] at ht; cases ht
          · refine ⟨a, b, vs, us, rfl, .inr ⟨s1, s2, OkE.ret r o ?_⟩⟩
            intro ρ' A' H' s
            have q := k ρ' A' H' r s
            have q' := k2 ρ' A' H' r s
            refine ⟨fun i pp hp => ?_, ⟨vs, us, q, q', by omega⟩⟩
            obtain ⟨x, y, hx, hy, rfl⟩ := zipP_get hp
            obtain ⟨v, h1, h2⟩ := (rp.step r s).get hx
            obtain ⟨u, h3, h4⟩ := (rp2.step r s).get hy
            refine ⟨⟨vs, us, v, u, q, q', h1, h3⟩, fun y H'' ⟨T, x', y', e1, e2, e3, e4, e5⟩ => ?_⟩
            subst e1 e3
            have g1 := e4 vs q
            have g2 := e5 us q'
            rw [h1] at g1; cases g1
            rw [h3] at g2; cases g2
            exact pair_new s.rep e2 h2 h4
      · exact o.elim
  · exact o.elim
end
end PF

/-! text PF8 -/
set_option Elab.async false
set_option linter.all false
set_option maxRecDepth 100000
set_option maxHeartbeats 1000000
/-! PF8: comprehensions. -/
namespace PF
open PySem L2 PySem.Spec PyProof.Rows
def W0 : WX := fun _ _ _ _ => False
def wipeD (σ : EnvD) : List Nat → EnvD
  | [] => σ
  | v :: vs => (wipeD σ vs).set v none
/-- the turns of a comprehension: each begins with the same slots -/
def loopB (g : BG) (tt : BT) (body : EnvD → AH → Option AH) : List P → EnvD → AH → Option AH
  | [], _, A => some A
  | x :: r, σ, A => match g (.p x) σ A with
    | none => none
    | some (σ1, A1) => match tt σ1 A1 with
      | some (.val false A2) => loopB g tt body r σ A2
      | some (.val true A2) => match body σ1 A2 with
        | some A3 => loopB g tt body r σ A3
        | none => none
      | _ => none
def addL (k : Nat) (te : BE) : EnvD → AH → Option AH := fun σ A => match te σ A with
  | some (.val (.p y) A1) => match A1[k]? with
    | some (some (.lst acc)) => if acc.length < sizeLine then some (A1.set k (some (.lst (acc ++ [y])))) else none
    | _ => none
  | _ => none
def innerB (f1 : BI) (g1 : BG) (tt1 : BT) (vs1 : List Nat) (body : EnvD → AH → Option AH) : EnvD → AH → Option AH := fun σ A => match f1 σ A with
  | some (.val xs A1) => loopB g1 tt1 body xs (wipeD σ vs1) A1
  | _ => none
def endC (k : Nat) (r : Option AH) : Option (Res D) := match r with
  | some A => match A[k]? with
    | some (some o) => some (.val (.p (frozen o)) (A.take k))
    | _ => none
  | none => none
def bLc (f : BI) (g : BG) (tt : BT) (te : BE) (vs : List Nat) : BE := fun σ => (f σ).bind fun xs A => endC A.length (loopB g tt (addL A.length te) xs (wipeD σ vs) (A ++ [some (.lst [])]))
def bLc2 (f : BI) (g : BG) (tt : BT) (f1 : BI) (g1 : BG) (tt1 : BT) (te : BE) (vs vs1 : List Nat) : BE := fun σ => (f σ).bind fun xs A =>
  endC A.length (loopB g tt (innerB f1 g1 tt1 vs1 (addL A.length te)) xs (wipeD σ vs) (A ++ [some (.lst [])]))
def bYes : BT := fun _ => M.ret true
section
variable {X : Cx} {W : WX} {K : PySem.W.Frag} {ρ ρ' : List Addr} {A A' : AH} {H H' : Hp} {σ : St} {σD : EnvD}
theorem takes0 : Takes X W0 := fun u s' ⟨a, B, sI, pins, σ, H, cls, d, e, I, nb, up, sky, na, os, ag, w⟩ => w.elim
theorem c_yes : PTs X [] (tT X.K W bYes) := ⟨fun pins s σ H Q I h => pts_nil.run pins s σ H Q I (by
  obtain ⟨ρ, A, σD, r, e, o⟩ := h
  exact OkE.ret r o rfl)⟩
theorem c_one {c : Expr} {t : BT} (h : PT X c (tT X.K W t)) : PTs X [c] (tT X.K W t) := pts_one h
theorem RelEnv.wipe (e : RelEnv K ρ A H σD σ) : ∀ vs : List Nat, RelEnv K ρ A H (wipeD σD vs) (wipe σ vs)
  | [] => e
  | v :: vs => by
    have ih := RelEnv.wipe e vs
    refine ⟨by simp [wipeD, L2.wipe, ih.1], fun i d h => ?_⟩
    unfold wipeD at h
    unfold L2.wipe
    by_cases hj : v = i
    · subst hj
      by_cases hl : v < (wipeD σD vs).length
      · rw [List.getElem?_set_self hl] at h; cases h
      · rw [List.getElem?_eq_none (by simpa using hl)] at h; cases h
    · rw [List.getElem?_set_ne hj] at h
      rw [List.getElem?_set_ne hj]
      exact ih.2 i d h
theorem wipe_get (σ : St) : ∀ (vs : List Nat) (i : Nat), (wipe σ vs)[i]? = if i ∈ vs then (σ[i]?).map (fun _ => none) else σ[i]?
  | [], i => by simp [L2.wipe]
  | v :: vs, i => by
    unfold L2.wipe
    by_cases hj : v = i
    · subst hj
      by_cases hl : v < (L2.wipe σ vs).length
      · rw [List.getElem?_set_self hl]
        rw [wipe_length] at hl
        simp [List.getElem?_eq_getElem hl]
      · rw [List.getElem?_eq_none (by simpa using hl)]
        rw [wipe_length] at hl
        rw [if_pos List.mem_cons_self, List.getElem?_eq_none (Nat.le_of_not_lt hl)]; rfl
    · rw [List.getElem?_set_ne hj, wipe_get σ vs i]
      have : i ≠ v := Ne.symm hj
      simp [this]
theorem wipe_eq {σ σ2 : St} {is vs : List Nat} (hl : σ2.length = (wipe σ vs).length) (hj : ∀ j, j ∉ is → σ2[j]? = (wipe σ vs)[j]?) (hs : ∀ i ∈ is, i ∈ vs) : wipe σ2 vs = wipe σ vs := by
  apply List.ext_getElem?
  intro i
  rw [wipe_get, wipe_get]
  by_cases hi : i ∈ vs
  · rw [if_pos hi, if_pos hi]
    rw [wipe_length] at hl
    by_cases h : i < σ.length
    · rw [List.getElem?_eq_getElem h, List.getElem?_eq_getElem (show i < σ2.length by omega)]; rfl
    · rw [List.getElem?_eq_none (show σ2.length ≤ i by omega), List.getElem?_eq_none (show σ.length ≤ i by omega)]
  · rw [if_neg hi, if_neg hi, hj i (fun z => hi (hs i z)), wipe_get, if_neg hi]
/-- the collected object is handed back -/
theorem endC_ok {ρ0 ρ2 : List Addr} {A0 A2 : AH} {H0 : Hp} {D0 : Addr} {Q : VK} (r0 : Rep K ρ0 A0 H0) (s : Step K ρ0 A0 H0 ρ2 A2 H) (hD : ρ2[A0.length]? = some D0)
    (o : OkE K W (RelD K) (endC A0.length (some A2)) ρ0 A0 σ H0 Q) : Q (.ref D0) H := by
  unfold endC at o
  simp only at o
  cases q : A2[A0.length]? with
  | none => rw [q] at o; exact o.elim
  | some z =>
    cases z with
    | none => rw [q] at o; exact o.elim
    | some ob =>
      rw [q] at o
      have s1 := s.trunc A0.length (by rw [r0.len]; exact Nat.le_refl _)
      refine o _ H _ s1 ?_
      have ro := s.rep.obj _ D0 ob hD q
      have lv := (s.rep.trunc A0.length).2
      have nL : ¬ Lv (ρ2.take A0.length) (A2.take A0.length) D0 := fun z => by
        have z0 := z
        obtain ⟨j, u, h1, h2⟩ := z
        rw [List.getElem?_take] at h1 h2
        split at h1
        · rename_i hlt
          rw [if_pos hlt] at h2
          have := s.rep.inj j A0.length D0 u ob h1 hD h2 q
          omega
        · cases h1
      exact RelAO.frozen (RelAO.keep (fun _ _ h _ => .inl h) (fun a _ _ na z => na (lv a z)) s.rep.tup ro) nL
/-- one turn: the target, the test, what is done -/
theorem turn_ok {is vs : List Nat} {g : BG} {tt : BT} {body : EnvD → AH → Option AH} {p : P} {rest : List P} {σ0 : EnvD} {ρb ρ2 : List Addr} {Ab A2 : AH} {Hb H2 H3 : Hp} {x : V} {Fin : Option AH → Prop} (hs : ∀ i ∈ is, i ∈ vs)
    (hnone : ¬ Fin none) (s2 : Step K ρb Ab Hb ρ2 A2 H2) (s3 : Step K ρ2 A2 H2 ρ2 A2 H3) (e2 : RelEnv K ρ2 A2 H2 σ0 (wipe σ vs)) (rx : RelP K (Lv ρ2 A2) H3 p x)
    (o : Fin (loopB g tt body (p :: rest) σ0 A2)) (Bd : St → Hp → Prop)
    (hb : ∀ σ1 ρ4 A4 H4 σ2, Step K ρb Ab Hb ρ4 A4 H4 → RelEnv K ρ4 A4 H4 σ1 σ2 → Fin (match body σ1 A4 with
      | some A5 => loopB g tt body rest σ0 A5
      | none => none) → Bd σ2 H4) :
    tGt K is g x (wipe σ vs) H3 fun σ2 H4 => wipe σ2 vs = wipe σ vs ∧ tT K W0 tt σ2 H4 fun b H5 =>
      if b = true then Bd σ2 H5 else ∃ ρ5 A5, Step K ρb Ab Hb ρ5 A5 H5 ∧ Fin (loopB g tt body rest σ0 A5) := by
  refine ⟨ρ2, A2, σ0, .p p, s3.rep, e2.step s2.rep s3, rx, ?_⟩
  unfold loopB at o
  cases qg : g (.p p) σ0 A2 with
  | none => rw [qg] at o; exact (hnone o).elim
  | some z =>
    obtain ⟨σ1, A3⟩ := z
    rw [qg] at o
    simp only at o
    intro ρ3 H4 σ' s4 e4 hl hj
    refine ⟨wipe_eq hl hj hs, ρ3, A3, σ1, s4.rep, e4, ?_⟩
    cases qt : tt σ1 A3 with
    | none => rw [qt] at o; exact (hnone o).elim
    | some w =>
      rw [qt] at o
      cases w with
      | exc _ _ => exact (hnone o).elim
      | val b A4 =>
        intro ρ4 H5 b' s5 rb
        cases (show b = b' from rb)
        have s05 := ((s2.trans s3).trans s4).trans s5
        cases b with
        | false => exact ⟨ρ4, A4, s05, o⟩
        | true => exact hb σ1 ρ4 A4 H5 σ' s05 (e4.step s4.rep s5) o
theorem add_ok {k : Nat} {te : BE} {σ1 : EnvD} {ρb ρ4 : List Addr} {Ab A4 : AH} {Hb H4 : Hp} {σ2 : St} {D0 : Addr} {Fin : Option AH → Prop} {nx : AH → Option AH} (hnone : ¬ Fin none) (hD : ρb[k]? = some D0)
    (s : Step K ρb Ab Hb ρ4 A4 H4) (e : RelEnv K ρ4 A4 H4 σ1 σ2) (o : Fin (match addL k te σ1 A4 with
      | some A5 => nx A5
      | none => none)) :
    tE K W0 te σ2 H4 fun y H5 => ∃ acc, H5 D0 = some (.lst acc) ∧ acc.length < sizeLine ∧ (fun H6 => ∃ ρ6 A6, Step K ρb Ab Hb ρ6 A6 H6 ∧ Fin (nx A6)) (upd H5 D0 (.lst (acc ++ [y]))) := by
  refine ⟨ρ4, A4, σ1, s.rep, e, ?_⟩
  unfold addL at o
  cases q : te σ1 A4 with
  | none => rw [q] at o; exact (hnone o).elim
  | some w =>
    rw [q] at o
    cases w with
    | exc _ _ => exact (hnone o).elim
    | val d A5 =>
      cases d with
      | ref _ => exact (hnone o).elim
      | p y =>
        simp only at o
        intro ρ5 H5 v s5 rv
        split at o
        · rename_i A6 hA6
          split at hA6
          · rename_i acc hacc
            split at hA6
            · rename_i hlt
              cases hA6
              have hD5 := s5.pre _ _ (s.pre _ _ hD)
              obtain ⟨vs, g1, g2⟩ := s5.rep.obj k D0 _ hD5 hacc
              have sw := Step.write (u := .lst (acc ++ [y])) (ho := .lst (vs ++ [v])) s5.rep hD5 hacc ⟨_, rfl, RelPs.append g2 (by simp only [RelPs]; exact ⟨v, [], rfl, rv, rfl⟩)⟩
              exact ⟨vs, g1, by rw [← g2.length]; exact hlt, ρ5, _, (s.trans s5).trans sw, o⟩
            · cases hA6
          · cases hA6
        · exact (hnone o).elim
theorem rLc {is vs : List Nat} {f : BI} {g : BG} {tt : BT} {te : BE} {Q : VK} (hs : ∀ i ∈ is, i ∈ vs) (h : tE K W (bLc f g tt te vs) σ H Q) : tLc (tI K W f) (tGt K is g) (tT K W0 tt) (tE K W0 te) vs σ H Q := by
  refine tG.mono (tG.bind (f := f) (R := RIt K) (R' := RelD K) h) fun J H1 ⟨ρ1, A1, σD, xs, r, e, rj, o⟩ D0 hD0 => ?_
  have hl := r.len
  have s1 := Step.mut (p := D0) (o := .lst []) (ho := .lst []) r hD0 ⟨[], rfl, by simp only [RelPs]⟩
  have hD1 : (ρ1 ++ [D0])[A1.length]? = some D0 := by rw [← hl, List.getElem?_append_right (Nat.le_refl _)]; simp
  let Fin : Option AH → Prop := fun r => OkE K W (RelD K) (endC A1.length r) ρ1 A1 σ H1 Q
  have hnone : ¬ Fin none := fun z => z
  refine ⟨fun i m H => m + i = xs.length ∧ ∃ ρ2 A2, Step K (ρ1 ++ [D0]) (A1 ++ [some (.lst [])]) (upd H1 D0 (.lst [])) ρ2 A2 H ∧ Fin (loopB g tt (addL A1.length te) (xs.drop i) (wipeD σD vs) A2), ⟨xs.length, rfl, _, _, Step.refl s1.rep, o⟩, ?_⟩
  rintro i m H2 ⟨hm, ρ2, A2, s2, o2⟩
  obtain ⟨jg, js⟩ := rj ρ2 A2 H2 (s1.trans s2)
  cases hx : xs[i]? with
  | none =>
    have hlen : xs.length ≤ i := List.getElem?_eq_none_iff.mp hx
    have hi : i = xs.length := by omega
    subst hi
    rw [List.drop_length] at o2
    exact .inl ⟨js, endC_ok r (s1.trans s2) (s2.pre _ _ hD1) o2⟩
  | some p =>
    have hlt := (List.getElem?_eq_some_iff.mp hx).1
    have hd : xs.drop i = p :: xs.drop (i + 1) := by
      rw [List.drop_eq_getElem_cons hlt]; congr 1; exact (List.getElem?_eq_some_iff.mp hx).2
    rw [hd] at o2
    refine .inr ⟨(jg i p hx).1, fun H' => ∃ ρ6 A6, Step K (ρ1 ++ [D0]) (A1 ++ [some (.lst [])]) (upd H1 D0 (.lst [])) ρ6 A6 H' ∧ Fin (loopB g tt (addL A1.length te) (xs.drop (i + 1)) (wipeD σD vs) A6),
      fun H' h => ⟨m - 1, by omega, by omega, h⟩, fun x H3 hy => ?_⟩
    obtain ⟨s3, rx⟩ := (jg i p hx).2 x H3 hy
    have e2 := ((e.step r s1).step s1.rep s2).wipe vs
    exact turn_ok hs hnone s2 s3 e2 rx o2 _ fun σ1 ρ4 A4 H4 σ2 s4 e4 o4 => add_ok hnone hD1 s4 e4 o4
theorem rLc2 {is vs is1 vs1 : List Nat} {f f1 : BI} {g g1 : BG} {tt tt1 : BT} {te : BE} {Q : VK} (hs : ∀ i ∈ is, i ∈ vs) (hs1 : ∀ i ∈ is1, i ∈ vs1) (h : tE K W (bLc2 f g tt f1 g1 tt1 te vs vs1) σ H Q) :
    tLc2 (tI K W f) (tGt K is g) (tT K W0 tt) (tI K W0 f1) (tGt K is1 g1) (tT K W0 tt1) (tE K W0 te) vs vs1 σ H Q := by
  refine tG.mono (tG.bind (f := f) (R := RIt K) (R' := RelD K) h) fun J H1 ⟨ρ1, A1, σD, xs, r, e, rj, o⟩ D0 hD0 => ?_
  have hl := r.len
  have s1 := Step.mut (p := D0) (o := .lst []) (ho := .lst []) r hD0 ⟨[], rfl, by simp only [RelPs]⟩
  have hD1 : (ρ1 ++ [D0])[A1.length]? = some D0 := by rw [← hl, List.getElem?_append_right (Nat.le_refl _)]; simp
  let Fin : Option AH → Prop := fun r => OkE K W (RelD K) (endC A1.length r) ρ1 A1 σ H1 Q
  have hnone : ¬ Fin none := fun z => z
  generalize hbd : innerB f1 g1 tt1 vs1 (addL A1.length te) = bd at o
  refine ⟨fun i m H => m + i = xs.length ∧ ∃ ρ2 A2, Step K (ρ1 ++ [D0]) (A1 ++ [some (.lst [])]) (upd H1 D0 (.lst [])) ρ2 A2 H ∧ Fin (loopB g tt bd (xs.drop i) (wipeD σD vs) A2), ⟨xs.length, rfl, _, _, Step.refl s1.rep, o⟩, ?_⟩
  rintro i m H2 ⟨hm, ρ2, A2, s2, o2⟩
  obtain ⟨jg, js⟩ := rj ρ2 A2 H2 (s1.trans s2)
  cases hx : xs[i]? with
  | none =>
    have hlen : xs.length ≤ i := List.getElem?_eq_none_iff.mp hx
    have hi : i = xs.length := by omega
    subst hi
    rw [List.drop_length] at o2
    exact .inl ⟨js, endC_ok r (s1.trans s2) (s2.pre _ _ hD1) o2⟩
  | some p =>
    have hlt := (List.getElem?_eq_some_iff.mp hx).1
    have hd : xs.drop i = p :: xs.drop (i + 1) := by
      rw [List.drop_eq_getElem_cons hlt]; congr 1; exact (List.getElem?_eq_some_iff.mp hx).2
    rw [hd] at o2
    refine .inr ⟨(jg i p hx).1, fun H' => ∃ ρ6 A6, Step K (ρ1 ++ [D0]) (A1 ++ [some (.lst [])]) (upd H1 D0 (.lst [])) ρ6 A6 H' ∧ Fin (loopB g tt bd (xs.drop (i + 1)) (wipeD σD vs) A6),
      fun H' h => ⟨m - 1, by omega, by omega, h⟩, fun x H3 hy => ?_⟩
    obtain ⟨s3, rx⟩ := (jg i p hx).2 x H3 hy
    have e2 := ((e.step r s1).step s1.rep s2).wipe vs
    refine turn_ok hs hnone s2 s3 e2 rx o2 _ fun σ1 ρ4 A4 H4 σ2 s4 e4 o4 => ?_
    -- the inner loop
    subst hbd
    refine ⟨ρ4, A4, σ1, s4.rep, e4, ?_⟩
    unfold innerB at o4
    cases q : f1 σ1 A4 with
    | none => rw [q] at o4; exact (hnone o4).elim
    | some w =>
      rw [q] at o4
      cases w with
      | exc _ _ => exact (hnone o4).elim
      | val ys A5 =>
        simp only at o4
        intro ρ5 H5 J1 s5 rj1
        let Fin1 : Option AH → Prop := fun r => Fin (match r with
          | some A5 => loopB g tt (innerB f1 g1 tt1 vs1 (addL A1.length te)) (xs.drop (i + 1)) (wipeD σD vs) A5
          | none => none)
        have hnone1 : ¬ Fin1 none := fun z => hnone z
        have sb := s4.trans s5
        refine ⟨fun j n H => n + j = ys.length ∧ ∃ ρ6 A6, Step K ρ5 A5 H5 ρ6 A6 H ∧ Fin1 (loopB g1 tt1 (addL A1.length te) (ys.drop j) (wipeD σ1 vs1) A6), ⟨ys.length, rfl, _, _, Step.refl s5.rep, o4⟩, ?_⟩
        rintro j n H6 ⟨hn, ρ6, A6, s6, o6⟩
        obtain ⟨jg1, js1⟩ := rj1 ρ6 A6 H6 s6
        cases hy1 : ys[j]? with
        | none =>
          have hlen : ys.length ≤ j := List.getElem?_eq_none_iff.mp hy1
          have hi : j = ys.length := by omega
          subst hi
          rw [List.drop_length] at o6
          exact .inl ⟨js1, ρ6, A6, sb.trans s6, o6⟩
        | some p1 =>
          have hlt1 := (List.getElem?_eq_some_iff.mp hy1).1
          have hd1 : ys.drop j = p1 :: ys.drop (j + 1) := by
            rw [List.drop_eq_getElem_cons hlt1]; congr 1; exact (List.getElem?_eq_some_iff.mp hy1).2
          rw [hd1] at o6
          refine .inr ⟨(jg1 j p1 hy1).1, fun H' => ∃ ρ7 A7, Step K ρ5 A5 H5 ρ7 A7 H' ∧ Fin1 (loopB g1 tt1 (addL A1.length te) (ys.drop (j + 1)) (wipeD σ1 vs1) A7),
            fun H' h => ⟨n - 1, by omega, by omega, h⟩, fun x H7 hy => ?_⟩
          obtain ⟨s7, rx7⟩ := (jg1 j p1 hy1).2 x H7 hy
          have e7 := ((e4.step s4.rep s5).step s5.rep s6).wipe vs1
          exact turn_ok hs1 hnone1 s6 s7 e7 rx7 o6 _ fun σ1' ρ8 A8 H8 σ2' s8 e8 o8 => add_ok hnone1 (sb.pre _ _ hD1) s8 e8 o8
abbrev Bk (X : Cx) (scope : Scope) (P : Cx → Prop) : Prop := ∀ (s : Shared) (H : Hp) (C : Addr) (cl : List (Str × Addr)) (fp : List Addr), P (X.blk s H scope (compEnvC scope cl C X.env) fp)
theorem e_lc {elt tg iter : Expr} {ifs : List Expr} {scope : Scope} {own : List (Str × Nat)} {is : List Nat} {pos : Pos} {f : BI} {g : BG} {tt : BT} {te : BE} (hc : X.calm = true) (hN : X.N.Nodup) (hi : PI X tg iter (tI X.K W f)) (ok : BlkOk X.N X.env.scope scope own)
    (his : ∀ i ∈ is, i ∈ own.map (·.2)) (hg : Bk X scope fun Y => PG Y tg (tGt X.K is g)) (ht : Bk X scope fun Y => PTs Y ifs (tT X.K W0 tt)) (he : Bk X scope fun Y => PE Y elt (tE X.K W0 te)) (hs : ∀ x, foldedSetIterable iter X.env x = pure x := by intro _; rfl) :
    PE X (.ListComp elt [⟨tg, iter, ifs, 0⟩] scope pos) (tE X.K W (bLc f g tt te (own.map (·.2)))) :=
  (pe_lc hc hN hi ok hg ht he hs).imp fun σ H Q h => rLc his h
theorem e_lc2 {elt tg iter tg1 iter1 : Expr} {ifs ifs1 : List Expr} {scope : Scope} {own : List (Str × Nat)} {is is1 vs1 : List Nat} {pos : Pos} {f f1 : BI} {g g1 : BG} {tt tt1 : BT} {te : BE} (hc : X.calm = true) (hN : X.N.Nodup) (hi : PI X tg iter (tI X.K W f)) (ok : BlkOk X.N X.env.scope scope own) (hv : ∀ i ∈ vs1, i ∈ own.map (·.2))
    (his : ∀ i ∈ is, i ∈ own.map (·.2)) (his1 : ∀ i ∈ is1, i ∈ vs1) (hg : Bk X scope fun Y => PG Y tg (tGt X.K is g)) (ht : Bk X scope fun Y => PTs Y ifs (tT X.K W0 tt))
    (hi1 : Bk X scope fun Y => PI Y tg1 iter1 (tI X.K W0 f1)) (hg1 : Bk X scope fun Y => PG Y tg1 (tGt X.K is1 g1)) (ht1 : Bk X scope fun Y => PTs Y ifs1 (tT X.K W0 tt1))
    (he : Bk X scope fun Y => PE Y elt (tE X.K W0 te)) (hs : ∀ x, foldedSetIterable iter X.env x = pure x := by intro _; rfl) (hs1 : ∀ env x, foldedSetIterable iter1 env x = pure x := by intro _ _; rfl) :
    PE X (.ListComp elt [⟨tg, iter, ifs, 0⟩, ⟨tg1, iter1, ifs1, 0⟩] scope pos) (tE X.K W (bLc2 f g tt f1 g1 tt1 te (own.map (·.2)) vs1)) :=
  (pe_lc2 hc hN hi ok hv hg ht hi1 hg1 ht1 he hs hs1).imp fun σ H Q h => rLc2 his his1 h
/-- name = a value that a function's reading serves (in HandS's own words) -/
theorem rSetN {i : Nat} {f : BE} {t : TE} {D : Ends} (m : ∀ σ H Q, tE K W f σ H Q → t σ H Q) (h : tS K W (sSet f i) D σ H) : tAsg t (gName i) D σ H := by
  refine m _ _ _ (tG.mono (rThen h) fun v H1 ⟨ρ1, A1, σD, d, r, e, rv, o⟩ => ?_)
  exact o ρ1 H1 _ (Step.refl r) (e.set rv)
theorem s_setLc {i : Nat} {y : Str} {py : Pos} {elt tg iter : Expr} {ifs : List Expr} {scope : Scope} {own : List (Str × Nat)} {is : List Nat} {pos spos : Pos} {f : BI} {g : BG} {tt : BT} {te : BE} (hc : X.calm = true) (hN : X.N.Nodup) (hy : X.N[i]? = some y) (hyl : X.env.scope.names.lookup y = some .local)
    (hsw : swapsWith (.ListComp elt [⟨tg, iter, ifs, 0⟩] scope pos) (some (.Name y py)) spos.line X.env = pure true) (hi : PI X tg iter (tI X.K W f)) (ok : BlkOk X.N X.env.scope scope own)
    (his : ∀ i ∈ is, i ∈ own.map (·.2)) (hg : Bk X scope fun Y => PG Y tg (tGt X.K is g)) (ht : Bk X scope fun Y => PTs Y ifs (tT X.K W0 tt)) (he : Bk X scope fun Y => PE Y elt (tE X.K W0 te)) (hs : ∀ x, foldedSetIterable iter X.env x = pure x := by intro _; rfl) :
    PS X (.Assign [.Name y py] (.ListComp elt [⟨tg, iter, ifs, 0⟩] scope pos) spos) (tS X.K W (sSet (bLc f g tt te (own.map (·.2))) i)) :=
  (ps_setLc hc hN hy hyl hsw hi ok hg ht he hs).imp fun D σ H h => rSetN (fun _ _ _ z => rLc his z) h
theorem s_setLc2 {i : Nat} {y : Str} {py : Pos} {elt tg iter tg1 iter1 : Expr} {ifs ifs1 : List Expr} {scope : Scope} {own : List (Str × Nat)} {is is1 vs1 : List Nat} {pos spos : Pos} {f f1 : BI} {g g1 : BG} {tt tt1 : BT} {te : BE} (hc : X.calm = true) (hN : X.N.Nodup) (hy : X.N[i]? = some y) (hyl : X.env.scope.names.lookup y = some .local)
    (hsw : swapsWith (.ListComp elt [⟨tg, iter, ifs, 0⟩, ⟨tg1, iter1, ifs1, 0⟩] scope pos) (some (.Name y py)) spos.line X.env = pure true) (hi : PI X tg iter (tI X.K W f)) (ok : BlkOk X.N X.env.scope scope own) (hv : ∀ i ∈ vs1, i ∈ own.map (·.2))
    (his : ∀ i ∈ is, i ∈ own.map (·.2)) (his1 : ∀ i ∈ is1, i ∈ vs1) (hg : Bk X scope fun Y => PG Y tg (tGt X.K is g)) (ht : Bk X scope fun Y => PTs Y ifs (tT X.K W0 tt))
    (hi1 : Bk X scope fun Y => PI Y tg1 iter1 (tI X.K W0 f1)) (hg1 : Bk X scope fun Y => PG Y tg1 (tGt X.K is1 g1)) (ht1 : Bk X scope fun Y => PTs Y ifs1 (tT X.K W0 tt1))
    (he : Bk X scope fun Y => PE Y elt (tE X.K W0 te)) (hs : ∀ x, foldedSetIterable iter X.env x = pure x := by intro _; rfl) (hs1 : ∀ env x, foldedSetIterable iter1 env x = pure x := by intro _ _; rfl) :
    PS X (.Assign [.Name y py] (.ListComp elt [⟨tg, iter, ifs, 0⟩, ⟨tg1, iter1, ifs1, 0⟩] scope pos) spos) (tS X.K W (sSet (bLc2 f g tt f1 g1 tt1 te (own.map (·.2)) vs1) i)) :=
  (ps_setLc2 hc hN hy hyl hsw hi ok hv hg ht hi1 hg1 ht1 he hs hs1).imp fun D σ H h => rSetN (fun _ _ _ z => rLc2 his his1 z) h
end
end PF

/-! text PF9 -/
set_option Elab.async false
set_option linter.all false
set_option maxRecDepth 100000
set_option maxHeartbeats 1000000
/-! PF9: alternatives; slices, concatenation, in, dicts. -/
namespace PF
open PySem L2 PySem.Spec PyProof.Rows

/-! ### alternatives: what the first does not serve, the second may -/
def mAlt {α : Type} (f g : M α) : M α := fun A => match f A with
  | none => g A
  | r => r
def bAlt {α : Type} (f g : EnvD → M α) : EnvD → M α := fun σ => mAlt (f σ) (g σ)
def sAlt (f g : BS) : BS := fun σ A => match f σ A with
  | none => g σ A
  | r => r
def oAlt (f g : D → D → M D) : D → D → M D := fun x y => mAlt (f x y) (g x y)
def lAlt (f g : List D → M D) : List D → M D := fun ds => mAlt (f ds) (g ds)
section
variable {X : Cx} {W : WX} {K : PySem.W.Frag} {ρ ρ' : List Addr} {A A' : AH} {H H' : Hp} {σ : St} {σD : EnvD}
theorem mAlt_or {α β : Type} {R : List Addr → AH → Hp → α → β → Prop} {f g : M α} {Q : β → Hp → Prop} (h : OkE K W R (mAlt f g A) ρ A σ H Q) : OkE K W R (f A) ρ A σ H Q ∨ OkE K W R (g A) ρ A σ H Q := by
  unfold mAlt at h
  cases q : f A with
  | none => rw [q] at h; exact .inr h
  | some r => rw [q] at h; exact .inl h
theorem bAlt_or {α β : Type} {R : List Addr → AH → Hp → α → β → Prop} {f g : EnvD → M α} {Q : β → Hp → Prop} (h : tG K W R (bAlt f g) σ H Q) : tG K W R f σ H Q ∨ tG K W R g σ H Q := by
  obtain ⟨ρ, A, σD, r, e, o⟩ := h
  exact (mAlt_or o).imp (fun o => ⟨ρ, A, σD, r, e, o⟩) fun o => ⟨ρ, A, σD, r, e, o⟩
theorem e_alt {e : Expr} {f g : BE} (h1 : PE X e (tE X.K W f)) (h2 : PE X e (tE X.K W g)) : PE X e (tE X.K W (bAlt f g)) := ⟨fun pins s σ H Q I h => (bAlt_or h).elim (fun h => h1.run pins s σ H Q I h) fun h => h2.run pins s σ H Q I h⟩
theorem t_alt {e : Expr} {f g : BT} (h1 : PT X e (tT X.K W f)) (h2 : PT X e (tT X.K W g)) : PT X e (tT X.K W (bAlt f g)) := ⟨fun pins s σ H Q I h => (bAlt_or h).elim (fun h => h1.run pins s σ H Q I h) fun h => h2.run pins s σ H Q I h⟩
theorem i_alt {tg e : Expr} {f g : BI} (h1 : PI X tg e (tI X.K W f)) (h2 : PI X tg e (tI X.K W g)) : PI X tg e (tI X.K W (bAlt f g)) := ⟨fun pins s σ H Q I h => (bAlt_or (show tG X.K W (RIt X.K) (bAlt f g) σ H Q from h)).elim (fun h => h1.run pins s σ H Q I h) fun h => h2.run pins s σ H Q I h⟩
theorem s_alt {e : Stmt} {f g : BS} (h1 : PS X e (tS X.K W f)) (h2 : PS X e (tS X.K W g)) : PS X e (tS X.K W (sAlt f g)) := ⟨fun pins s σ H D I h => by
  obtain ⟨ρ, A, σD, r, e, o⟩ := h
  unfold sAlt at o
  cases q : f σD A with
  | none => rw [q] at o; exact h2.run pins s σ H D I ⟨ρ, A, σD, r, e, o⟩
  | some z => rw [q] at o; exact h1.run pins s σ H D I ⟨ρ, A, σD, r, e, by rw [q]; exact o⟩⟩
theorem r2_alt {f g : D → D → M D} {r r' : R2} (h1 : R2D K W f r) (h2 : R2D K W g r') : R2D K W (oAlt f g) (fun x y H Q => r x y H Q ∨ r' x y H Q) := by
  intro ρ A σ H x y v u Q r rx ry o
  exact (mAlt_or o).imp (fun o => h1 ρ A σ H x y v u Q r rx ry o) fun o => h2 ρ A σ H x y v u Q r rx ry o
theorem l_alt {f g : List D → M D} {r r' : List V → Hp → VK → Prop} (h1 : RLD K W f r) (h2 : RLD K W g r') : RLD K W (lAlt f g) (fun xs H Q => r xs H Q ∨ r' xs H Q) := by
  intro ρ A σ H ds vs Q r rd o
  exact (mAlt_or o).imp (fun o => h1 ρ A σ H ds vs Q r rd o) fun o => h2 ρ A σ H ds vs Q r rd o

/-! ### slices -/
def bPart (f : BE) : EnvD → M (Option Int) := fun σ => (f σ).bind fun d => match intOf d with
  | some i => M.ret (some i)
  | none => M.stuck
def bNoPart : EnvD → M (Option Int) := fun _ => M.ret none
def tO (K : PySem.W.Frag) (W : WX) (f : EnvD → M (Option Int)) : TO := tG K W (fun _ _ _ a b => a = b) f
theorem _root_.L2.PO.imp {e : Option Expr} {t t' : TO} (h : PO X e t) (m : ∀ σ H Q, t' σ H Q → t σ H Q) : PO X e t' := ⟨fun pins s σ H Q I w => h.run pins s σ H Q I (m _ _ _ w)⟩
theorem o_none : PO X none (tO X.K W bNoPart) := po_none.imp fun σ H Q h => by
  obtain ⟨ρ, A, σD, r, e, o⟩ := h
  exact OkE.ret r o rfl
theorem o_some {e : Expr} {f : BE} (h : PE X e (tE X.K W f)) : PO X (some e) (tO X.K W (bPart f)) := by
  refine (po_some h).imp fun σ H Q h => ?_
  refine tG.mono (tG.bind (f := f) h) fun v H1 ⟨ρ1, A1, σD, d, r, e, rd, o⟩ => ?_
  cases q : intOf d with
  | none => rw [q] at o; exact o.elim
  | some i => rw [q] at o; exact ⟨i, rd_int rd q, OkE.ret r o rfl⟩
def cutP (xs : List P) (lo hi : Option Int) : List P := (xs.drop (HT.sIx xs.length 0 lo)).take (HT.sIx xs.length xs.length hi - HT.sIx xs.length 0 lo)
def oSl (d : D) (lo hi : Option Int) : M D := fun A => match tupOf d with
  | some xs => if HT.sIx xs.length 0 lo = 0 ∧ HT.sIx xs.length xs.length hi = xs.length then some (.val d A) else some (.val (.p (.tup (cutP xs lo hi))) A)
  | none => match lstOf d A with
    | some xs => some (.val (.p (.lst (cutP xs lo hi))) A)
    | none => match strOf d with
      | some z => if z.length ≤ sizeLine then some (.val (.p (.str (cutS z lo hi))) A) else none
      | none => none
def bSl (f : BE) (fl fh : EnvD → M (Option Int)) : BE := fun σ => (f σ).bind fun d => (fl σ).bind fun lo => (fh σ).bind fun hi => oSl d lo hi
def rSlX (K : PySem.W.Frag) : V → Option Int → Option Int → Hp → VK → Prop := fun x lo hi H Q => rSlA K x lo hi H Q ∨ rSlL K x lo hi H Q ∨ rSlS x lo hi H Q
theorem sl_any : SlR X (rSlX X.K) := sl_tupA.or (sl_list.or sl_str)
theorem cut_rel {L : Addr → Prop} {xs : List P} {vs : List V} {lo hi : Option Int} (h : RelPs K L H xs vs) : RelPs K L H (cutP xs lo hi) (cutV vs lo hi) := by
  unfold cutP cutV
  rw [h.length]
  exact RelPs.take _ (RelPs.drop _ h)
theorem sl_ok {d : D} {lo hi : Option Int} {v : V} {Q : VK} (r : Rep K ρ A H) (rd : RelD K ρ A H d v) (o : OkE K W (RelD K) (oSl d lo hi A) ρ A σ H Q) : rSlX K v lo hi H Q := by
  unfold oSl at o
  cases h1 : tupOf d with
  | some xs =>
    rw [h1] at o
    simp only at o
    obtain ⟨a, vs, rfl, hs, rp⟩ := rd_tup rd h1
    refine .inl ⟨a, vs, rfl, hs, fun c => ?_, fun c p hp => ?_⟩
    · rw [← rp.length] at c
      rw [if_pos c] at o
      exact o ρ H _ (Step.refl r) rd
    · rw [← rp.length] at c
      rw [if_neg c] at o
      have s := Step.laid (p := p) r (.tup (cutV vs lo hi)) hp
      exact o ρ _ _ s (by simp only [RelD, RelP]; exact ⟨p, _, rfl, upd_same, (cut_rel rp).step r s⟩)
  | none =>
    rw [h1] at o
    simp only at o
    cases h2 : lstOf d A with
    | some xs =>
      rw [h2] at o
      obtain ⟨a, vs, rfl, hs, rp⟩ := rd_lst r rd h2
      refine .inr (.inl ⟨a, vs, rfl, .inl (.inl hs), fun p hp => ?_⟩)
      have s := Step.laid (p := p) r (.lst (cutV vs lo hi)) hp
      exact o ρ _ _ s (by simp only [RelD, RelP]; exact ⟨p, _, rfl, r.notNone hp, upd_same, (cut_rel rp).step r s⟩)
    | none =>
      rw [h2] at o
      simp only at o
      cases h3 : strOf d with
      | none => rw [h3] at o; exact o.elim
      | some z =>
        rw [h3] at o
        simp only at o
        split at o
        · rename_i hz
          exact .inr (.inr ⟨z, rd_str rd h3, hz, o ρ H _ (Step.refl r) (by simp only [RelD, RelP])⟩)
        · exact o.elim
theorem e_sl {e : Expr} {lo hi : Option Expr} {pos p2 : Pos} {f : BE} {fl fh : EnvD → M (Option Int)} (he : PE X e (tE X.K W f)) (hl : PO X lo (tO X.K W fl)) (hu : PO X hi (tO X.K W fh)) : PE X (.Subscript e (.Slice lo hi none p2) pos) (tE X.K W (bSl f fl fh)) := by
  refine (pe_slice sl_any he hl hu).imp fun σ H Q h => ?_
  refine tG.mono (tG.bind (f := f) h) fun v H1 ⟨ρ1, A1, σD, d, r1, e1, rd, o⟩ => ?_
  refine ⟨ρ1, A1, σD, r1, e1, (OkE.bind (R := fun _ _ _ a b => a = b) o).mono fun lo H2 ⟨ρ2, A2, lo', s2, el, o2⟩ => ?_⟩
  cases (show lo' = lo from el)
  refine ⟨ρ2, A2, σD, s2.rep, e1.step r1 s2, (OkE.bind (R := fun _ _ _ a b => a = b) o2).mono fun hi H3 ⟨ρ3, A3, hi', s3, eh, o3⟩ => ?_⟩
  cases (show hi' = hi from eh)
  exact sl_ok s3.rep ((rd.step r1 s2).step s2.rep s3) o3

/-! ### concatenation -/
def oCatL : D → D → M D := fun x y A => match lstOf x A, lstOf y A with
  | some xs, some ys => if xs.length + ys.length ≤ sizeLine then some (.val (.p (.lst (xs ++ ys))) A) else none
  | _, _ => none
theorem r2_catQ : R2D K W oCatL rCat := by
  intro ρ A σ H x y v u Q r rx ry o
  unfold oCatL at o
  split at o
  · rename_i xs ys h1 h2
    split at o
    · rename_i c
      obtain ⟨a, vs, rfl, hs, rp⟩ := rd_lst r rx h1
      obtain ⟨b, ws, rfl, hs2, rp2⟩ := rd_lst r ry h2
      refine ⟨a, b, vs, ws, rfl, rfl, hs, hs2, by rw [← rp.length, ← rp2.length]; exact c, fun p hp => ?_⟩
      have s := Step.laid (p := p) r (.lst (vs ++ ws)) hp
      exact o ρ _ _ s (by simp only [RelD, RelP]; exact ⟨p, _, rfl, r.notNone hp, upd_same, (RelPs.append rp rp2).step r s⟩)
    · exact o.elim
  · exact o.elim
def oCatT : D → D → M D := fun x y => match tupOf x, tupOf y with
  | some xs, some ys => M.need (xs.length + ys.length ≤ sizeLine) (match xs, ys with
    | [], _ => M.ret y
    | _ :: _, [] => M.ret x
    | _ :: _, _ :: _ => M.ret (.p (.tup (xs ++ ys))))
  | _, _ => M.stuck
theorem r2_catT : R2D K W oCatT (rCatA K) := by
  intro ρ A σ H x y v u Q r rx ry o
  unfold oCatT at o
  cases h1 : tupOf x with
  | none => rw [h1] at o; exact o.elim
  | some xs =>
    cases h2 : tupOf y with
    | none => rw [h1, h2] at o; exact o.elim
    | some ys =>
    rw [h1, h2] at o
    obtain ⟨c, o⟩ := need_ok o
    obtain ⟨a, vs, rfl, hs, rp⟩ := rd_tup rx h1
    obtain ⟨b, ws, rfl, hs2, rp2⟩ := rd_tup ry h2
    refine ⟨a, b, vs, ws, rfl, rfl, hs, hs2, by rw [← rp.length, ← rp2.length]; exact c, fun e => ?_, fun e e2 => ?_, fun e e2 p hp => ?_⟩
    · cases xs with
      | nil => exact OkE.ret r o ry
      | cons x0 r0 => have := rp.length; rw [e] at this; cases this
    · cases xs with
      | nil => have := rp.length; exact absurd (List.length_eq_zero_iff.mp this.symm) e
      | cons x0 r0 =>
        cases ys with
        | nil => exact OkE.ret r o rx
        | cons _ _ => have := rp2.length; rw [e2] at this; cases this
    · cases xs with
      | nil => have := rp.length; exact absurd (List.length_eq_zero_iff.mp this.symm) e
      | cons x0 r0 =>
        cases ys with
        | nil => have := rp2.length; exact absurd (List.length_eq_zero_iff.mp this.symm) e2
        | cons _ _ =>
          have s := Step.laid (p := p) r (.tup (vs ++ ws)) hp
          exact o ρ _ _ s (by simp only [RelD, RelP]; exact ⟨p, _, rfl, upd_same, (RelPs.append rp rp2).step r s⟩)
def oPlus : D → D → M D := oAlt oAdd (oAlt oCatL oCatT)
theorem e_plus {fa fb : BE} {a b : Expr} {pos : Pos} (ha : PE X a (tE X.K W fa)) (hb : PE X b (tE X.K W fb)) : PE X (.BinOp a .Add b pos) (tE X.K W (bOp oPlus fa fb)) :=
  e_op (r2_alt r2_add (r2_alt r2_catQ r2_catT)) (op_addX.or (op_cat.or op_catA)) ha hb

/-! ### in -/
def oInSeq (neg : Bool) : D → D → M D := fun x y A => match pyD x A, seqOf y A with
  | some d, some ys => match pyOfs ys with
    | some ds => if SeqAt.shaped d = true ∧ SeqAt.shaped (.list ds) = true then some (.val (.p (.bl (if neg then !(ds.any fun z => PyData.eqv z d) else ds.any fun z => PyData.eqv z d))) A) else none
    | none => none
  | _, _ => none
def rInQ (K : PySem.W.Frag) (neg : Bool) : R2 := fun x y H Q => ∃ d ds, Dp K H x d ∧ (Dp K H y (.list ds) ∨ Dp K H y (.tuple ds)) ∧ SeqAt.shaped d = true ∧ SeqAt.shaped (.list ds) = true ∧ Q (.bl (if neg then !(ds.any fun z => PyData.eqv z d) else ds.any fun z => PyData.eqv z d)) H
theorem op_inQ (hu : X.A.units + 65 < cLine) : OpR X (compareOp .In) (rInQ X.K false) := by
  intro pins s σ H x y v u Q I rx ry h
  obtain ⟨d, ds, hd, he, sd, se, q⟩ := h
  obtain ⟨as, r1⟩ := Dp.reads I d x v hd rx
  rcases he with he | he
  · obtain ⟨bs, r2⟩ := Dp.reads I (.list ds) y u he ry
    exact SeqAt.in_list_reads r2 r1 (SeqAt.canLay_of_shaped se) (SeqAt.canLay_of_shaped sd) (room_in_shaped sd hu) ⟨.bl _, H, I, rfl, q⟩
  · obtain ⟨bs, r2⟩ := Dp.reads I (.tuple ds) y u he ry
    exact SeqAt.in_tuple_reads r2 r1 (SeqAt.canLay_of_shaped se) (SeqAt.canLay_of_shaped sd) (room_in_shaped sd hu) ⟨.bl _, H, I, rfl, q⟩
theorem op_notInQ (hu : X.A.units + 65 < cLine) : OpR X (compareOp .NotIn) (rInQ X.K true) := by
  intro pins s σ H x y v u Q I rx ry h
  obtain ⟨d, ds, hd, he, sd, se, q⟩ := h
  obtain ⟨as, r1⟩ := Dp.reads I d x v hd rx
  rcases he with he | he
  · obtain ⟨bs, r2⟩ := Dp.reads I (.list ds) y u he ry
    exact SeqAt.notIn_list_reads r2 r1 (SeqAt.canLay_of_shaped se) (SeqAt.canLay_of_shaped sd) (room_in_shaped sd hu) ⟨.bl _, H, I, rfl, q⟩
  · obtain ⟨bs, r2⟩ := Dp.reads I (.tuple ds) y u he ry
    exact SeqAt.notIn_tuple_reads r2 r1 (SeqAt.canLay_of_shaped se) (SeqAt.canLay_of_shaped sd) (room_in_shaped sd hu) ⟨.bl _, H, I, rfl, q⟩
theorem r2_inQ {neg : Bool} : R2D K W (oInSeq neg) (rInQ K neg) := by
  intro ρ A σ H x y v u Q r rx ry o
  unfold oInSeq at o
  split at o
  · rename_i d ys h1 h2
    split at o
    · rename_i ds h3
      split at o
      · rename_i hs
        obtain ⟨a, vs, rfl, hq, rp⟩ := rd_seq r ry h2
        refine ⟨d, ds, rd_py r rx h1, ?_, hs.1, hs.2, o ρ H _ (Step.refl r) (by simp only [RelD, RelP])⟩
        have hp := py_rels ys vs ds rp h3
        exact hq.imp (fun h => .lst h hp) fun h => .tup h hp
      · exact o.elim
    · exact o.elim
  · exact o.elim
/-- a sign in a text -/
def oInS (neg : Bool) : D → D → M D := fun x y A => match strOf x, strOf y with
  | some c, some z => match c.cps.toList with
    | [k] => some (.val (.p (.bl (if neg then !decide (k ∈ z.cps.toList) else decide (k ∈ z.cps.toList)))) A)
    | _ => none
  | _, _ => none
theorem r2_inS : R2D K W (oInS false) (fun x y H Q => ∃ (c : Nat) (z : Str), x = .str ⟨#[c]⟩ ∧ y = .str z ∧ Q (.bl (decide (c ∈ z.cps.toList))) H) := by
  intro ρ A σ H x y v u Q r rx ry o
  unfold oInS at o
  cases h1 : strOf x with
  | none => rw [h1] at o; exact o.elim
  | some c =>
    cases h2 : strOf y with
    | none => rw [h1, h2] at o; exact o.elim
    | some z =>
    rw [h1, h2] at o
    dsimp only at o
    split at o
    · rename_i k hk
      have e1 := rd_str rx h1
      have e2 := rd_str ry h2
      refine ⟨k, z, ?_, e2, o ρ H _ (Step.refl r) (by simp only [RelD, RelP]; rfl)⟩
      rw [e1]
      obtain ⟨cps⟩ := c
      have : cps = #[k] := by
        have : cps.toList = [k] := hk
        rw [← Array.toArray_toList (xs := cps), this]
      rw [this]
    · exact o.elim
theorem r2_notInS : R2D K W (oInS true) (fun x y H Q => ∃ (c : Nat) (z : Str), x = .str ⟨#[c]⟩ ∧ y = .str z ∧ Q (.bl (!decide (c ∈ z.cps.toList))) H) := by
  intro ρ A σ H x y v u Q r rx ry o
  unfold oInS at o
  cases h1 : strOf x with
  | none => rw [h1] at o; exact o.elim
  | some c =>
    cases h2 : strOf y with
    | none => rw [h1, h2] at o; exact o.elim
    | some z =>
    rw [h1, h2] at o
    dsimp only at o
    split at o
    · rename_i k hk
      have e1 := rd_str rx h1
      have e2 := rd_str ry h2
      refine ⟨k, z, ?_, e2, o ρ H _ (Step.refl r) (by simp only [RelD, RelP]; rfl)⟩
      rw [e1]
      obtain ⟨cps⟩ := c
      have : cps = #[k] := by
        have : cps.toList = [k] := hk
        rw [← Array.toArray_toList (xs := cps), this]
      rw [this]
    · exact o.elim
end
end PF

/-! text PF10 -/
set_option Elab.async false
set_option linter.all false
set_option maxRecDepth 100000
set_option maxHeartbeats 1000000
/-! PF10: dicts. -/
namespace PF
open PySem L2 PySem.Spec PyProof.Rows

def dKey (t : Bool) (k : P) : Option (List Key) := if t then tkeyOf k else (keyOf k).map ([·])
def findD (t : Bool) (kvs : List (P × P)) (k : P) : Option P := (kvs.find? fun kv => decide (dKey t kv.1 = dKey t k)).map (·.2)
def putD (t : Bool) (kvs : List (P × P)) (k x : P) : List (P × P) :=
  if (kvs.any fun kv => decide (dKey t kv.1 = dKey t k)) = true then kvs.map (fun kv => if dKey t kv.1 = dKey t k then (kv.1, x) else kv) else kvs ++ [(k, x)]
section
variable {K : PySem.W.Frag} {L : Addr → Prop} {H : Hp}
theorem rel_key {k : P} {v : V} {q : Key} (h : RelP K L H k v) (e : keyOf k = some q) : v = kV q := by
  cases k with
  | int i => cases e; simp only [RelP] at h; exact h
  | str x => cases e; simp only [RelP] at h; exact h
  | _ => cases e
theorem rel_keys : ∀ {xs : List P} {vs : List V} {q : List Key}, RelPs K L H xs vs → keysOf xs = some q → vs = q.map kV
  | [], vs, q, h, e => by cases e; simp only [RelPs] at h; subst h; rfl
  | x :: r, vs, q, h, e => by
    simp only [RelPs] at h
    obtain ⟨v, w, rfl, a, b⟩ := h
    unfold keysOf at e
    cases h1 : keyOf x with
    | none => rw [h1] at e; cases e
    | some k =>
      cases h2 : keysOf r with
      | none => rw [h1, h2] at e; cases e
      | some ks =>
        rw [h1, h2] at e; cases e
        rw [rel_key a h1, rel_keys b h2]; rfl
theorem rel_tkey {k : P} {v : V} {q : List Key} (h : RelP K L H k v) (e : tkeyOf k = some q) : ∃ b, v = .ref b ∧ H b = some (.tup (q.map kV)) := by
  cases k with
  | tup xs =>
    simp only [RelP] at h
    obtain ⟨a, vs, rfl, h1, h2⟩ := h
    exact ⟨a, rfl, by rw [h1, rel_keys h2 e]⟩
  | _ => cases e
theorem key_eq {a k : P} {q q' : Key} (h : keyOf k = some q) (h' : keyOf a = some q') : (dKey false a = dKey false k) ↔ q' = q := by simp [dKey, h, h']
theorem tkey_eq {a k : P} {q q' : List Key} (h : tkeyOf k = some q) (h' : tkeyOf a = some q') : (dKey true a = dKey true k) ↔ q' = q := by simp [dKey, h, h']
def ROpt (K : PySem.W.Frag) (L : Addr → Prop) (H : Hp) : Option P → Option V → Prop
  | none, o => o = none
  | some x, o => ∃ v, o = some v ∧ RelP K L H x v
theorem find_KV {k : P} {q : Key} (hk : keyOf k = some q) : ∀ {kvs : List (P × P)} {l : List (Key × V)}, RelKV K L H kvs l → ROpt K L H (findD false kvs k) (valV l q)
  | [], l, h => by simp only [RelKV] at h; subst h; rfl
  | (a, x) :: r, l, h => by
    simp only [RelKV] at h
    obtain ⟨q', v, w, rfl, ha, hx, hr⟩ := h
    by_cases e : q' = q
    · rw [valV_pos e]
      have : findD false ((a, x) :: r) k = some x := by simp [findD, List.find?_cons, (key_eq hk ha).mpr e]
      rw [this]; exact ⟨v, rfl, hx⟩
    · rw [valV_neg e]
      have : findD false ((a, x) :: r) k = findD false r k := by simp [findD, List.find?_cons, mt (key_eq hk ha).mp e]
      rw [this]; exact find_KV hk hr
theorem find_TV {k : P} {q : List Key} (hk : tkeyOf k = some q) : ∀ {kvs : List (P × P)} {l : List (List Key × V)}, RelTV K L H kvs l → ROpt K L H (findD true kvs k) (valV l q)
  | [], l, h => by simp only [RelTV] at h; subst h; rfl
  | (a, x) :: r, l, h => by
    simp only [RelTV] at h
    obtain ⟨q', v, w, rfl, ha, hx, hr⟩ := h
    by_cases e : q' = q
    · rw [valV_pos e]
      have : findD true ((a, x) :: r) k = some x := by simp [findD, List.find?_cons, (tkey_eq hk ha).mpr e]
      rw [this]; exact ⟨v, rfl, hx⟩
    · rw [valV_neg e]
      have : findD true ((a, x) :: r) k = findD true r k := by simp [findD, List.find?_cons, mt (tkey_eq hk ha).mp e]
      rw [this]; exact find_TV hk hr
theorem any_KV {k : P} {q : Key} (hk : keyOf k = some q) : ∀ {kvs : List (P × P)} {l : List (Key × V)}, RelKV K L H kvs l → (kvs.any fun kv => decide (dKey false kv.1 = dKey false k)) = (l.any fun kv => decide (kv.1 = q))
  | [], l, h => by simp only [RelKV] at h; subst h; rfl
  | (a, x) :: r, l, h => by
    simp only [RelKV] at h
    obtain ⟨q', v, w, rfl, ha, hx, hr⟩ := h
    rw [List.any_cons, List.any_cons, any_KV hk hr]
    congr 1
    exact decide_eq_decide.mpr (key_eq hk ha)
theorem any_TV {k : P} {q : List Key} (hk : tkeyOf k = some q) : ∀ {kvs : List (P × P)} {l : List (List Key × V)}, RelTV K L H kvs l → (kvs.any fun kv => decide (dKey true kv.1 = dKey true k)) = (l.any fun kv => decide (kv.1 = q))
  | [], l, h => by simp only [RelTV] at h; subst h; rfl
  | (a, x) :: r, l, h => by
    simp only [RelTV] at h
    obtain ⟨q', v, w, rfl, ha, hx, hr⟩ := h
    rw [List.any_cons, List.any_cons, any_TV hk hr]
    congr 1
    exact decide_eq_decide.mpr (tkey_eq hk ha)
theorem RelKV.snoc {k x : P} {q : Key} {v : V} (hk : keyOf k = some q) (hx : RelP K L H x v) : ∀ {kvs : List (P × P)} {l : List (Key × V)}, RelKV K L H kvs l → RelKV K L H (kvs ++ [(k, x)]) (l ++ [(q, v)])
  | [], l, h => by simp only [RelKV] at h; subst h; simp only [List.nil_append, RelKV]; exact ⟨q, v, [], rfl, hk, hx, rfl⟩
  | (a, y) :: r, l, h => by
    simp only [RelKV] at h
    obtain ⟨q', u, w, rfl, ha, hy, hr⟩ := h
    simp only [List.cons_append, RelKV]
    exact ⟨q', u, _, rfl, ha, hy, RelKV.snoc hk hx hr⟩
theorem RelTV.snoc {k x : P} {q : List Key} {v : V} (hk : tkeyOf k = some q) (hx : RelP K L H x v) : ∀ {kvs : List (P × P)} {l : List (List Key × V)}, RelTV K L H kvs l → RelTV K L H (kvs ++ [(k, x)]) (l ++ [(q, v)])
  | [], l, h => by simp only [RelTV] at h; subst h; simp only [List.nil_append, RelTV]; exact ⟨q, v, [], rfl, hk, hx, rfl⟩
  | (a, y) :: r, l, h => by
    simp only [RelTV] at h
    obtain ⟨q', u, w, rfl, ha, hy, hr⟩ := h
    simp only [List.cons_append, RelTV]
    exact ⟨q', u, _, rfl, ha, hy, RelTV.snoc hk hx hr⟩
theorem RelKV.repl {k x : P} {q : Key} {v : V} (hk : keyOf k = some q) (hx : RelP K L H x v) : ∀ {kvs : List (P × P)} {l : List (Key × V)}, RelKV K L H kvs l → RelKV K L H (kvs.map fun kv => if dKey false kv.1 = dKey false k then (kv.1, x) else kv) (l.map fun kv => if kv.1 = q then (kv.1, v) else kv)
  | [], l, h => by simp only [RelKV] at h; subst h; simp only [List.map_nil, RelKV]
  | (a, y) :: r, l, h => by
    simp only [RelKV] at h
    obtain ⟨q', u, w, rfl, ha, hy, hr⟩ := h
    have ih := RelKV.repl hk hx hr
    rw [List.map_cons, List.map_cons]
    by_cases e : q' = q
    · rw [if_pos ((key_eq hk ha).mpr e), if_pos e]
      simp only [RelKV]; exact ⟨q', v, _, rfl, ha, hx, ih⟩
    · rw [if_neg (mt (key_eq hk ha).mp e), if_neg e]
      simp only [RelKV]; exact ⟨q', u, _, rfl, ha, hy, ih⟩
theorem RelTV.repl {k x : P} {q : List Key} {v : V} (hk : tkeyOf k = some q) (hx : RelP K L H x v) : ∀ {kvs : List (P × P)} {l : List (List Key × V)}, RelTV K L H kvs l → RelTV K L H (kvs.map fun kv => if dKey true kv.1 = dKey true k then (kv.1, x) else kv) (l.map fun kv => if kv.1 = q then (kv.1, v) else kv)
  | [], l, h => by simp only [RelTV] at h; subst h; simp only [List.map_nil, RelTV]
  | (a, y) :: r, l, h => by
    simp only [RelTV] at h
    obtain ⟨q', u, w, rfl, ha, hy, hr⟩ := h
    have ih := RelTV.repl hk hx hr
    rw [List.map_cons, List.map_cons]
    by_cases e : q' = q
    · rw [if_pos ((tkey_eq hk ha).mpr e), if_pos e]
      simp only [RelTV]; exact ⟨q', v, _, rfl, ha, hx, ih⟩
    · rw [if_neg (mt (tkey_eq hk ha).mp e), if_neg e]
      simp only [RelTV]; exact ⟨q', u, _, rfl, ha, hy, ih⟩
theorem RelKV.put {k x : P} {q : Key} {v : V} (hk : keyOf k = some q) (hx : RelP K L H x v) {kvs : List (P × P)} {l : List (Key × V)} (h : RelKV K L H kvs l) : RelKV K L H (putD false kvs k x) (putK l q v) := by
  unfold putD putK
  rw [any_KV hk h]
  by_cases e : (l.any fun kv => decide (kv.1 = q)) = true
  · rw [if_pos e, if_pos e]; exact RelKV.repl hk hx h
  · rw [if_neg e, if_neg e]; exact RelKV.snoc hk hx h
theorem RelTV.put {k x : P} {q : List Key} {v : V} (hk : tkeyOf k = some q) (hx : RelP K L H x v) {kvs : List (P × P)} {l : List (List Key × V)} (h : RelTV K L H kvs l) : RelTV K L H (putD true kvs k x) (putK l q v) := by
  unfold putD putK
  rw [any_TV hk h]
  by_cases e : (l.any fun kv => decide (kv.1 = q)) = true
  · rw [if_pos e, if_pos e]; exact RelTV.repl hk hx h
  · rw [if_neg e, if_neg e]; exact RelTV.snoc hk hx h
end
/-- the dict and the key of a look-up -/
def dicKey (x y : D) (A : AH) : Option (Bool × List (P × P) × P) := match dicOf x A, y with
  | some (t, kvs), .p k => if (dKey t k).isSome then some (t, kvs, k) else none
  | _, _ => none
section
variable {X : Cx} {W : WX} {K : PySem.W.Frag} {ρ ρ' : List Addr} {A A' : AH} {H H' : Hp} {σ : St} {σD : EnvD}
theorem dget_ok {x y : D} {v u : V} {t : Bool} {kvs : List (P × P)} {k : P} (r : Rep K ρ A H) (rx : RelD K ρ A H x v) (ry : RelD K ρ A H y u) (e : dicKey x y A = some (t, kvs, k)) :
    ∃ a o, v = .ref a ∧ DGet H a u o ∧ ROpt K (Lv ρ A) H (findD t kvs k) o := by
  unfold dicKey at e
  split at e
  · rename_i t' kvs' k' h1
    split at e
    · rename_i hs
      cases e
      obtain ⟨a, rfl, q⟩ := rd_dic r rx h1
      rcases q with ⟨rfl, l, q1, q2⟩ | ⟨rfl, l, q1, q2⟩
      · cases hk : keyOf k with
        | none => simp [dKey, hk] at hs
        | some q => exact ⟨a, _, rfl, .inl ⟨l, q, q1, rel_key ry hk, rfl⟩, find_KV hk q2⟩
      · cases hk : tkeyOf k with
        | none => simp [dKey, hk] at hs
        | some q =>
          obtain ⟨b, rfl, hb⟩ := rel_tkey ry hk
          exact ⟨a, _, rfl, .inr ⟨l, q, b, q1, rfl, hb, rfl⟩, find_TV hk q2⟩
    · cases e
  · cases e
theorem ROpt.some_ {L : Addr → Prop} {q : P} {o : Option P} {v : Option V} (h : ROpt K L H o v) (e : o = some q) : ∃ u, v = some u ∧ RelP K L H q u := by subst e; exact h
theorem ROpt.isSome {L : Addr → Prop} {o : Option P} {v : Option V} (h : ROpt K L H o v) : o.isSome = v.isSome := by
  cases o with
  | none => cases (show v = none from h); rfl
  | some q => obtain ⟨u, rfl, _⟩ := h; rfl
/-- d[k] -/
def oDget : D → D → M D := fun x y A => match dicKey x y A with
  | some (t, kvs, k) => match findD t kvs k with
    | some q => some (.val (.p q) A)
    | none => none
  | none => none
def rDget : R2 := fun x y H Q => ∃ a v, x = .ref a ∧ DGet H a y (some v) ∧ Q v H
theorem r2_dget : R2D K W oDget rDget := by
  intro ρ A σ H x y v u Q r rx ry o
  unfold oDget at o
  split at o
  · rename_i t kvs k h1
    split at o
    · rename_i q h2
      obtain ⟨a, ov, rfl, g, ro⟩ := dget_ok r rx ry h1
      obtain ⟨w, rfl, rw'⟩ := ro.some_ h2
      exact ⟨a, w, rfl, g, o ρ H _ (Step.refl r) rw'⟩
    · exact o.elim
  · exact o.elim
theorem e_dget {fa fb : BE} {a b : Expr} {pos : Pos} (hu : X.A.units + 1 < cLine) (ha : PE X a (tE X.K W fa)) (hb : PE X b (tE X.K W fb)) (hs : NoSl b) : PE X (.Subscript a b pos) (tE X.K W (bOp oDget fa fb)) :=
  (pe_dget hu ha hb hs).imp fun σ H Q h => rOp (r := rDget) r2_dget h
/-- k in d -/
def oDin (neg : Bool) : D → D → M D := fun x y A => match dicKey y x A with
  | some (t, kvs, k) => some (.val (.p (.bl (if neg then !(findD t kvs k).isSome else (findD t kvs k).isSome))) A)
  | none => none
def rDin (neg : Bool) : R2 := fun x y H Q => ∃ a o, y = .ref a ∧ DGet H a x o ∧ Q (.bl (if neg then !o.isSome else o.isSome)) H
theorem op_din (hu : X.A.units + 1 < cLine) : OpR X (compareOp .In) (rDin false) := by
  intro pins s σ H x y v u Q I rx ry h
  obtain ⟨a, o, rfl, g, q⟩ := h
  obtain rfl : u = Value.ref a := ry
  exact d_in hu I g rx fun s3 I3 => ⟨.bl o.isSome, H, I3, rfl, q⟩
theorem op_dnotin (hu : X.A.units + 1 < cLine) : OpR X (compareOp .NotIn) (rDin true) := by
  intro pins s σ H x y v u Q I rx ry h
  obtain ⟨a, o, rfl, g, q⟩ := h
  obtain rfl : u = Value.ref a := ry
  exact d_notIn hu I g rx fun s3 I3 => ⟨.bl (!o.isSome), H, I3, rfl, q⟩
theorem r2_din {neg : Bool} : R2D K W (oDin neg) (rDin neg) := by
  intro ρ A σ H x y v u Q r rx ry o
  unfold oDin at o
  split at o
  · rename_i t kvs k h1
    obtain ⟨a, ov, rfl, g, ro⟩ := dget_ok r ry rx h1
    refine ⟨a, ov, rfl, g, ?_⟩
    have := ro.isSome
    rw [← this]
    exact o ρ H _ (Step.refl r) (by simp only [RelD, RelP])
  · exact o.elim
/-- x in y: a list or tuple, a text, a dict -/
def oIn (neg : Bool) : D → D → M D := oAlt (oInSeq neg) (oAlt (oInS neg) (oDin neg))
abbrev rInA (K : PySem.W.Frag) : R2 := fun x y H Q => rInQ K false x y H Q ∨ (fun x y H Q => (∃ (c : Nat) (z : Str), x = .str ⟨#[c]⟩ ∧ y = .str z ∧ Q (.bl (decide (c ∈ z.cps.toList))) H) ∨ rDin false x y H Q) x y H Q
abbrev rNotInA (K : PySem.W.Frag) : R2 := fun x y H Q => rInQ K true x y H Q ∨ (fun x y H Q => (∃ (c : Nat) (z : Str), x = .str ⟨#[c]⟩ ∧ y = .str z ∧ Q (.bl (!decide (c ∈ z.cps.toList))) H) ∨ rDin true x y H Q) x y H Q
theorem r2_in : R2D K W (oIn false) (rInA K) := r2_alt r2_inQ (r2_alt r2_inS r2_din)
theorem r2_notin : R2D K W (oIn true) (rNotInA K) := r2_alt r2_inQ (r2_alt r2_notInS r2_din)
theorem op_inA (hu : X.A.units + 65 < cLine) : OpR X (compareOp .In) (rInA X.K) := (op_inQ hu).or (op_in_sign.or (op_din (by omega)))
theorem op_notInA (hu : X.A.units + 65 < cLine) : OpR X (compareOp .NotIn) (rNotInA X.K) := (op_notInQ hu).or (op_notIn_sign.or (op_dnotin (by omega)))
/-- x[i]: a list, a tuple, a text, a dict -/
def oSub : D → D → M D := oAlt oIx oDget
theorem bOp_alt {f g : D → D → M D} {fa fb : BE} : bAlt (bOp f fa fb) (bOp g fa fb) = bOp (oAlt f g) fa fb := by
  funext σ A
  unfold bAlt bOp mAlt M.bind oAlt mAlt
  cases fa σ A with
  | none => rfl
  | some r =>
    cases r with
    | exc x A1 => rfl
    | val d A1 =>
      simp only
      cases fb σ A1 with
      | none => rfl
      | some r => cases r <;> rfl
theorem e_sub {fa fb : BE} {a b : Expr} {pos : Pos} (hu : X.A.units + 1 < cLine) (ha : PE X a (tE X.K W fa)) (hb : PE X b (tE X.K W fb)) (hp : PlainIx b) (hs : NoSl b) : PE X (.Subscript a b pos) (tE X.K W (bOp oSub fa fb)) := by
  have h := e_alt (e_ix (pos := pos) ha hb hp) (e_dget (pos := pos) hu ha hb hs)
  rw [bOp_alt] at h
  exact h
/-- {} -/
def bDnew (t : Bool) : BE := fun _ A => some (.val (.ref A.length) (A ++ [some (.dic t [])]))
theorem e_dnew {t : Bool} {pos : Pos} : PE X (.Dict [] [] pos) (tE X.K W (bDnew t)) := by
  cases t with
  | false =>
    refine pe_dnewK.imp fun σ H Q h => ?_
    obtain ⟨ρ, A, σD, r, e, o⟩ := h
    intro p hp
    refine o _ _ _ (Step.mut r hp (o := .dic false []) (.inl ⟨rfl, [], rfl, by simp only [RelKV]⟩)) ⟨p, ?_, rfl⟩
    rw [← r.len, List.getElem?_append_right (Nat.le_refl _)]; simp
  | true =>
    refine pe_dnewT.imp fun σ H Q h => ?_
    obtain ⟨ρ, A, σD, r, e, o⟩ := h
    intro p hp
    refine o _ _ _ (Step.mut r hp (o := .dic true []) (.inr ⟨rfl, [], rfl, by simp only [RelTV]⟩)) ⟨p, ?_, rfl⟩
    rw [← r.len, List.getElem?_append_right (Nat.le_refl _)]; simp
/-- d[k] = x of the dict number j -/
def putAt (j : Nat) (k x : P) (A : AH) : Option AH := match A[j]? with
  | some (some (.dic t kvs)) => if (dKey t k).isSome ∧ kvs.length < sizeLine then some (A.set j (some (.dic t (putD t kvs k x)))) else none
  | _ => none
theorem putAt_ok {j : Nat} {k x : P} {p : Addr} {u v : V} (r : Rep K ρ A H) (hp : ρ[j]? = some p) (rk : RelP K (Lv ρ A) H k u) (rx : RelP K (Lv ρ A) H x v) (e : putAt j k x A = some A') :
    ∃ H', DPut H p u v H' ∧ Step K ρ A H ρ A' H' := by
  unfold putAt at e
  split at e
  · rename_i t kvs hA
    split at e
    · rename_i hs
      obtain ⟨hs, hl⟩ := hs
      cases e
      rcases r.obj j p _ hp hA with ⟨rfl, l, h1, h2⟩ | ⟨rfl, l, h1, h2⟩
      · cases hk : keyOf k with
        | none => simp [dKey, hk] at hs
        | some q =>
          rw [rel_key rk hk]
          exact ⟨_, .inl ⟨l, q, h1, rfl, by rw [← RelKV.length h2]; exact hl, rfl⟩, Step.write r hp hA (.inl ⟨rfl, _, rfl, RelKV.put hk rx h2⟩)⟩
      · cases hk : tkeyOf k with
        | none => simp [dKey, hk] at hs
        | some q =>
          obtain ⟨b, rfl, hb⟩ := rel_tkey rk hk
          exact ⟨_, .inr ⟨l, q, b, h1, rfl, hb, by rw [← RelTV.length h2]; exact hl, rfl⟩, Step.write r hp hA (.inr ⟨rfl, _, rfl, RelTV.put hk rx h2⟩)⟩
    · cases e
  · cases e
theorem OkS.thn {f : BE} {k : D → EnvD → AH → Option SR} {Dn : Ends} (r : Rep K ρ A H) (e : RelEnv K ρ A H σD σ) (o : OkS K W Dn (sThen f k σD A) ρ A H) :
    OkE K W (RelD K) (f σD A) ρ A σ H fun v H1 => ∃ ρ1 A1 d, Step K ρ A H ρ1 A1 H1 ∧ RelD K ρ1 A1 H1 d v ∧ OkS K W Dn (k d σD A1) ρ1 A1 H1 := by
  unfold sThen at o
  cases q : f σD A with
  | none => rw [q] at o; exact o.elim
  | some z =>
    rw [q] at o
    cases z with
    | exc x A1 => exact fun ρ' H' c dx s rx => o ρ' H' σ c dx s (e.step r s) rx
    | val d A1 => exact fun ρ1 H1 v s rv => ⟨ρ1, A1, d, s, rv, OkS.step s o⟩
def endPut (dv dd dk : D) (σ : EnvD) (A : AH) : Option SR := match dd, dk, dv with
  | .ref j, .p k, .p x => match putAt j k x A with
    | some A' => some (.nx σ A')
    | none => none
  | _, _, _ => none
def sDput (fo fi fv : BE) : BS := sThen fv fun dv => sThen fo fun dd => sThen fi fun dk => endPut dv dd dk
theorem s_dput {o i value : Expr} {pos pos' : Pos} {fo fi fv : BE} (hu : X.A.units + 1 < cLine) (ho : PE X o (tE X.K W fo)) (hi : PE X i (tE X.K W fi)) (hv : PE X value (tE X.K W fv)) (hs : swapsWith value (some (.Subscript o i pos')) pos.line X.env = pure false := by rfl) :
    PS X (.Assign [.Subscript o i pos'] value pos) (tS X.K W (sDput fo fi fv)) := by
  refine (ps_dput hu ho hi hv hs).imp fun D σ H ⟨ρ, A, σD, r, e, o⟩ => ?_
  refine ⟨ρ, A, σD, r, e, (OkS.thn r e o).mono fun v H1 ⟨ρ1, A1, dv, s1, rv, o1⟩ => ?_⟩
  have e1 := e.step r s1
  refine ⟨ρ1, A1, σD, s1.rep, e1, (OkS.thn s1.rep e1 o1).mono fun x H2 ⟨ρ2, A2, dd, s2, rd, o2⟩ => ?_⟩
  have e2 := e1.step s1.rep s2
  refine ⟨ρ2, A2, σD, s2.rep, e2, (OkS.thn s2.rep e2 o2).mono fun y H3 ⟨ρ3, A3, dk, s3, rk, o3⟩ => ?_⟩
  have e3 := e2.step s2.rep s3
  have rv3 := (rv.step s1.rep s2).step s2.rep s3
  have rd3 := rd.step s2.rep s3
  unfold endPut at o3
  split at o3
  · rename_i j k x
    split at o3
    · rename_i A4 h4
      obtain ⟨p, hp, rfl⟩ := rd3
      obtain ⟨H4, dp, s4⟩ := putAt_ok s3.rep hp rk rv3 h4
      exact ⟨p, H4, rfl, dp, o3 _ _ _ s4 (e3.step s3.rep s4)⟩
    · exact o3.elim
  · exact o3.elim
/-- d.get(k), d.get(k, x) -/
def rIsD (x : D) (A : AH) : Bool := (dicOf x A).isSome
def bGet1 (fo fk : BE) : BE := fun σ => (fo σ).bind fun x => M.bind (fun A => if rIsD x A then some (.val () A) else none) fun _ => (fk σ).bind fun y => fun A => match dicKey x y A with
  | some (t, kvs, k) => some (.val (.p ((findD t kvs k).getD .non)) A)
  | none => none
def bGet2 (fo fk fx : BE) : BE := fun σ => (fo σ).bind fun x => M.bind (fun A => if rIsD x A then some (.val () A) else none) fun _ => (fk σ).bind fun y => (fx σ).bind fun z => fun A => match dicKey x y A with
  | some (t, kvs, k) => match findD t kvs k with
    | some q => some (.val (.p q) A)
    | none => some (.val z A)
  | none => none
theorem isD_ok {x : D} {v : V} (r : Rep K ρ A H) (rx : RelD K ρ A H x v) (e : rIsD x A = true) : ∃ a, v = .ref a ∧ IsD H a := by
  unfold rIsD at e
  cases q : dicOf x A with
  | none => rw [q] at e; cases e
  | some tk =>
    obtain ⟨t, kvs⟩ := tk
    obtain ⟨a, rfl, q⟩ := rd_dic r rx q
    rcases q with ⟨_, l, h, _⟩ | ⟨_, l, h, _⟩
    · exact ⟨a, rfl, .inl ⟨l, h⟩⟩
    · exact ⟨a, rfl, .inr ⟨l, h⟩⟩
theorem guard_ok {α β : Type} {R : List Addr → AH → Hp → α → β → Prop} {c : Bool} {g : Unit → M α} {Q : β → Hp → Prop} (h : OkE K W R (M.bind (fun A => if c then some (.val () A) else none) g A) ρ A σ H Q) : c = true ∧ OkE K W R (g () A) ρ A σ H Q := by
  cases c with
  | false => exact h.elim
  | true => exact ⟨rfl, h⟩
theorem e_get1 {o e : Expr} {apos cpos : Pos} {fo fk : BE} (hu : X.A.units + 1 < cLine) (ho : PE X o (tE X.K W fo)) (he : PE X e (tE X.K W fk)) (m : M1 X o "get" apos e cpos) : PE X (.Call (.Attribute o "get" apos) [e] [] cpos) (tE X.K W (bGet1 fo fk)) := by
  refine (pe_dget1 hu ho he m).imp fun σ H Q h => ?_
  refine tG.mono (tG.bind (f := fo) h) fun v H1 ⟨ρ1, A1, σD, x, r1, e1, rx, o1⟩ => ?_
  obtain ⟨c, o1⟩ := guard_ok (c := rIsD x A1) o1
  obtain ⟨a, rfl, hd⟩ := isD_ok r1 rx c
  refine ⟨a, rfl, hd, ρ1, A1, σD, r1, e1, (OkE.bind (R := RelD X.K) o1).mono fun u H2 ⟨ρ2, A2, y, s2, ry, o2⟩ => ?_⟩
  split at o2
  · rename_i t kvs k h1
    obtain ⟨a', ov, e', g, ro⟩ := dget_ok s2.rep (rx.step r1 s2) ry h1
    cases e'
    refine ⟨ov, g, o2 _ _ _ (Step.refl s2.rep) ?_⟩
    cases q : findD t kvs k with
    | none => rw [q] at ro; cases (show ov = none from ro); simp only [RelD, Option.getD_none, RelP]
    | some z => rw [q] at ro; obtain ⟨w, rfl, rz⟩ := ro; exact rz
  · exact o2.elim
theorem e_get2 {o e f : Expr} {apos cpos : Pos} {fo fk fx : BE} (hu : X.A.units + 1 < cLine) (ho : PE X o (tE X.K W fo)) (he : PE X e (tE X.K W fk)) (hf : PE X f (tE X.K W fx)) (m : M2 X o "get" apos e f cpos) : PE X (.Call (.Attribute o "get" apos) [e, f] [] cpos) (tE X.K W (bGet2 fo fk fx)) := by
  refine (pe_dget2 hu ho he hf m).imp fun σ H Q h => ?_
  refine tG.mono (tG.bind (f := fo) h) fun v H1 ⟨ρ1, A1, σD, x, r1, e1, rx, o1⟩ => ?_
  obtain ⟨c, o1⟩ := guard_ok (c := rIsD x A1) o1
  obtain ⟨a, rfl, hd⟩ := isD_ok r1 rx c
  refine ⟨a, rfl, hd, ρ1, A1, σD, r1, e1, (OkE.bind (R := RelD X.K) o1).mono fun u H2 ⟨ρ2, A2, y, s2, ry, o2⟩ => ?_⟩
  have e2 := e1.step r1 s2
  refine ⟨ρ2, A2, σD, s2.rep, e2, (OkE.bind (R := RelD X.K) o2).mono fun w H3 ⟨ρ3, A3, z, s3, rz, o3⟩ => ?_⟩
  split at o3
  · rename_i t kvs k h1
    obtain ⟨a', ov, e', g, ro⟩ := dget_ok s3.rep ((rx.step r1 s2).step s2.rep s3) (ry.step s2.rep s3) h1
    cases e'
    refine ⟨ov, g, ?_⟩
    split at o3
    · rename_i q h2
      obtain ⟨w', rfl, rz'⟩ := ro.some_ h2
      exact o3 _ _ _ (Step.refl s3.rep) rz'
    · rename_i h2
      rw [h2] at ro
      cases (show ov = none from ro)
      exact o3 _ _ _ (Step.refl s3.rep) rz
  · exact o3.elim
end
end PF

/-! text PF11 -/
set_option Elab.async false
set_option linter.all false
set_option maxRecDepth 100000
set_option maxHeartbeats 1000000
/-! PF11: dict comprehensions (keys ints, texts, tuples of these), dict of a list of pairs, displays. -/
namespace PF
open PySem L2 PySem.Spec PyProof.Rows
def newD (t : Bool) : HO := if t then .dT [] else .dK []
theorem newD_ok {t : Bool} {P : Program} {w : World} {H : Hp} (h : Heap) (hb : sysModules < h.objs.size) : ObjOk P w H (h.push { cls := .type "dict", data := .dict #[] }) h.objs.size (newD t) := by
  cases t
  · exact dk_empty h hb
  · exact dt_empty h hb
/-- what a comprehension lays at its key -/
theorem d_dictPut {X : Cx} {pins : List (Addr × Obj)} {σ : St} {H H' : Hp} {s : Shared} {E : Value → Shared → Prop} {a : Addr} {y v : V} {u r : Value} {Q : Unit → Shared → Prop} (hu : X.A.units + 1 < cLine) (I : Inv X pins σ H s) (g : DPut H a y v H') (ry : RelV y u) (rv : RelV v r)
    (h : ∀ s', Inv X pins σ H' s' → Q () s') : wpAny (model X.prog X.w) X.A (dictSet a u r) Q E s := by
  rcases g with ⟨kvs, k, e, ey, l, eH⟩ | ⟨kvs, k, b, e, ey, eb, l, eH⟩
  · subst ey eH
    exact d_dictSet I e l ry rv h
  · subst ey eH
    cases (show u = Value.ref b from ry)
    obtain ⟨z, hd, xs, rel, dd⟩ := dt_of I.hok e
    have hz : xs.length ≤ sizeLine := by rw [← Paired.length rel]; exact z
    have hl : (putK kvs k v).length ≤ sizeLine := by have := length_putK kvs k v; omega
    refine wpAny_dictSet_heap (hsz := hz) (show X.A.units < cLine by omega) (key_of I.hok eb) dd fun h' dd' hs => h _ ?_
    obtain ⟨q, es, ep, hq, h2, h3, h4, _, h5⟩ := dd'
    refine d_write I (by rw [e]; exact True.intro) hs ⟨q, hq⟩ ⟨hl, hd, _, (rel.put k eb rv).keeps fun c ys ec => ?_, q, es, ep, hq, h2, h3, h4, h5⟩
    rw [upd_ne (ne_of ec e (fun z => nomatch z))]
    exact ec
/-- {k: v for target in iter if ..} -/
def tDw (t : Bool) (wi : TI) (g : TG) (tt : TT) (tk tv : TE) (vs : List Nat) : TE := fun σ H Q => wi σ H fun J H1 => ∀ D, H1 D = none → ∃ W : Nat → Nat → Hp → Prop, (∃ m, W 0 m (upd H1 D (newD t))) ∧ ∀ i m H, W i m H →
  (J.stop i H ∧ Q (.ref D) H) ∨ (J.go i H ∧ ∃ Nx : Hp → Prop, (∀ H', Nx H' → ∃ m', m' < m ∧ W (i + 1) m' H') ∧ ∀ x H', J.yld i H x H' → g x (wipe σ vs) H' fun σ2 H2 => wipe σ2 vs = wipe σ vs ∧ tt σ2 H2 fun b H3 =>
    if b = true then tk σ2 H3 fun y H4 => tv σ2 H4 fun z H5 => ∃ H6, DPut H5 D y z H6 ∧ Nx H6 else Nx H3)
section
variable {X : Cx}
theorem dw_core {t : Bool} {pins : List (Addr × Obj)} {s : Shared} {σ : St} {H : Hp} {Q : VK} {kx vx tg iter : Expr} {ifs : List Expr} {scope : Scope} {own : List (Str × Nat)} {pos pos' : Pos} {wi : TI} {g : TG} {tt : TT} {tk tv : TE} {use : Option (Value → Sem Unit)} {Qf : Value → Shared → Prop}
    (hu : X.A.units + 1 < cLine) (hc : X.calm = true) (hN : X.N.Nodup) (I : Inv X pins σ H s) (hi : PI X tg iter wi) (ok : BlkOk X.N X.env.scope scope own)
    (hg : Bk X scope fun Y => PG Y tg g) (ht : Bk X scope fun Y => PTs Y ifs tt) (hk : Bk X scope fun Y => PE Y kx tk) (he : Bk X scope fun Y => PE Y vx tv) (hs : ∀ x, foldedSetIterable iter X.env x = pure x)
    (h : tDw t wi g tt tk tv (own.map (·.2)) σ H Q)
    (hRR : ∀ D C s' m H', Inv X pins σ H' s' → Q (.ref D) H' → s'.heap.Ns C m → FpOk X pins H' C → compPost (model X.prog X.w) X.A X.xe use Qf (.ref D) C (.ok .next) s') :
    wpAny (model X.prog X.w) X.A (comprehension (.DictComp kx vx [⟨tg, iter, ifs, 0⟩] scope pos) scope X.env pos' newDict false (eval iter X.env) use) Qf X.xe s := by
  have hfree : ∀ y ∈ scope.names, y.2 = .free → ∃ c, X.env.cells.lookup y.1 = some c := fun y hy e => (ok.free y hy e).elim (fun k => I.ok.has _ (.inl k)) fun k => I.ok.has _ (.inr k)
  refine wpAny_comprehension_free (use := use) rfl hs (closure_ok hfree) ok.kind (fun y hy e => by rw [ok.uniq y hy, e])
    (thn (hi.run pins s σ H _ I h) fun xv s1 hx => thn hx fun itv s2 h2 => ?_)
  obtain ⟨it, fp, tn, J, H2, e, I2, T, st2, f2, q⟩ := h2
  subst e
  refine wpAny_newObj_type (newEnv_comp ?_)
  generalize hD : s2.heap.objs.size = D
  have hDn : H2 D = none := I2.hok.fresh (Nat.le_of_eq hD)
  obtain ⟨W, ⟨m0, w0⟩, turn⟩ := q D hDn
  generalize hs3 : ({ s2 with heap := s2.heap.push { cls := .type "dict", data := .dict #[] } } : Shared) = s3
  have I3 : Inv X pins σ (upd H2 D (newD t)) s3 := by
    rw [← hs3]
    refine I2.laid (t' := s2.toks) (fun b o e => Heap.get?_push_of_some _ e) (Nat.le_of_eq hD) ?_
    rw [← hD]
    exact newD_ok s2.heap I2.big
  have h3 : s3.heap = s2.heap.push { cls := .type "dict", data := .dict #[] } := by rw [← hs3]
  have sz : ∀ b ∈ fp, b < s2.heap.objs.size := fun b hb => let ⟨o, e, _⟩ := T.obj _ _ st2 b hb; Heap.lt_size e
  have f3 : ∀ b ∈ fp, FpOk X pins (upd H2 D (newD t)) b ∧ b < s3.heap.objs.size := fun b hb => by
    have hlt := sz b hb
    refine ⟨⟨?_, (f2 b hb).2⟩, by rw [h3, Heap.size_push]; exact Nat.lt_succ_of_lt hlt⟩
    rw [upd_ne (by rw [← hD]; exact Nat.ne_of_lt hlt)]
    exact (f2 b hb).1
  have st3 : tn 0 s3.heap := T.keep _ _ _ st2 fun b _ o e => by rw [h3]; exact Heap.get?_push_of_some _ e
  have I4 := block_start I3 ok hN f3
  have pg := hg s3 (upd H2 D (newD t)) s3.heap.objs.size (cellsFrom (s3.heap.objs.size + 1) scope.names (cloFrom X.env.cells scope.names [])) fp
  have pt := ht s3 (upd H2 D (newD t)) s3.heap.objs.size (cellsFrom (s3.heap.objs.size + 1) scope.names (cloFrom X.env.cells scope.names [])) fp
  have pk := hk s3 (upd H2 D (newD t)) s3.heap.objs.size (cellsFrom (s3.heap.objs.size + 1) scope.names (cloFrom X.env.cells scope.names [])) fp
  have pe := he s3 (upd H2 D (newD t)) s3.heap.objs.size (cellsFrom (s3.heap.objs.size + 1) scope.names (cloFrom X.env.cells scope.names [])) fp
  show codeAny _ _ (.compStart (.DictComp kx vx [⟨tg, iter, ifs, 0⟩] scope pos) 0 (.ref it) (.ref D) (compEnvC scope (cellsFrom (s3.heap.objs.size + 1) scope.names (cloFrom X.env.cells scope.names [])) s3.heap.objs.size X.env)) (compPost (model X.prog X.w) X.A X.xe use Qf (.ref D) s3.heap.objs.size) { s3 with heap := pushCells (s3.heap.push { cls := .type "dict", data := .dict #[] }) scope.names }
  have nfp : ∀ b ∈ fp, (upd H2 D (newD t)) b = none := fun b hb => (f3 b hb).1.1
  generalize hce : compEnvC scope (cellsFrom (s3.heap.objs.size + 1) scope.names (cloFrom X.env.cells scope.names [])) s3.heap.objs.size X.env = ce at I4 pg pt pk pe ⊢
  have cL : ce.locals = s3.heap.objs.size := by subst hce; rfl
  generalize hH3 : upd H2 D (newD t) = H3 at I3 I4 pg pt pk pe w0 nfp f3
  generalize hs4 : ({ s3 with heap := pushCells (s3.heap.push { cls := .type "dict", data := .dict #[] }) scope.names } : Shared) = s4 at I4 ⊢
  have st4 : tn 0 s4.heap := T.keep _ _ _ st3 fun b _ o e => by rw [← hs4]; exact pushCells_keeps _ _ _ _ (Heap.get?_push_of_some _ e)
  have stat : ∀ {σ' : St} {H' : Hp} {s' : Shared}, Inv (X.blk s3 H3 scope ce fp) [] σ' H' s' → (∀ b ∈ fp, H' b = none) → ∀ b ∈ fp, FpOk (X.blk s3 H3 scope ce fp) [] H' b := fun {σ' H' s'} I' hn b hb =>
    ⟨hn b hb, (I'.ok.exf b hb).1, I'.ok.exfs b hb, .inl hb, fun x c e => (I'.ok.exf b hb).2 x c e, fun p hp => absurd (show p ∈ ([] : List (Addr × Obj)) ++ [] from hp) (by simp)⟩
  have loop : codeAny (model X.prog X.w) X.A (.compLoop (.DictComp kx vx [⟨tg, iter, ifs, 0⟩] scope pos) 0 (.ref it) (.ref D) ce) (compPost (model X.prog X.w) X.A X.xe use Qf (.ref D) s3.heap.objs.size) s4 := by
    refine compLoop_anyD (fun n s' => ∃ i H', Inv (X.blk s3 H3 scope ce fp) [] (wipe σ (own.map (·.2))) H' s' ∧ tn i s'.heap ∧ (∀ b ∈ fp, H' b = none) ∧ W i n H') ?_ m0 ⟨0, H3, I4, st4, nfp, w0⟩
    rintro n s5 ⟨i, H5, I5, st5, n5, w5⟩
    rcases turn i n H5 w5 with ⟨stop, qq⟩ | ⟨go, Nx, hNx, step⟩
    · refine thnF (T.done (X.blk s3 H3 scope ce fp) rfl rfl rfl hc i [] s5 _ H5 (fun _ _ => False) I5 (stat I5 n5) st5 stop) fun r s6 ⟨hr, I6⟩ => ?_
      subst hr
      have I7 : Inv X pins σ H5 s6 := I3.call' (ch := fp) I6.os I6.base I6.hok I6.bare fun b hb => ⟨(f3 b hb).1.2.2.2.1, (f3 b hb).1.2.1, (f3 b hb).1.2.2.2.2.1, (f3 b hb).1.2.2.2.2.2⟩
      have nC : H5 s3.heap.objs.size = none := by
        have z : H5 ce.locals = none := I6.free
        rw [cL] at z
        exact z
      obtain ⟨m, hn, _⟩ := I6.loc
      have hn : s6.heap.Ns ce.locals m := hn
      rw [cL] at hn
      exact hRR D s3.heap.objs.size s6 m H5 I7 qq hn (I3.fpOk (Nat.le_refl _) nC)
    · refine thnF (T.item (X.blk s3 H3 scope ce fp) rfl rfl rfl hc i [] s5 _ H5 (fun _ _ => False) I5 (stat I5 n5) st5 go) fun r s6 ⟨u, hr, h6⟩ => ?_
      subst hr
      refine thnF h6 fun _ s7 ⟨x, H7, I7, r7, y7, st7, n7⟩ => ?_
      have I7' := I7.pinned (stat I7 n7) (T.obj _ _ st7)
      refine thnF (pg.run _ s7 _ H7 x u _ I7' r7 (step x H7 y7)) fun _ s8 ⟨σ8, H8, I8, hw8, q8⟩ => ?_
      refine thnF (pt.run _ s8 σ8 H8 _ I8 q8) fun b s9 ⟨H9, I9, q9⟩ => ?_
      have fin : ∀ {s' : Shared} {H' : Hp}, Inv (X.blk s3 H3 scope ce fp) ([] ++ pinsAt fp s7.heap) σ8 H' s' → Nx H' → ∃ m, m < n ∧ ∃ i H', Inv (X.blk s3 H3 scope ce fp) [] (wipe σ (own.map (·.2))) H' s' ∧ tn i s'.heap ∧ (∀ b ∈ fp, H' b = none) ∧ W i m H' := fun {s' H'} I' nx => by
        obtain ⟨m', hm, w'⟩ := hNx H' nx
        have pin' : ∀ b ∈ fp, ∀ o, s7.heap.get? b = some o → s'.heap.get? b = some o ∧ H' b = none := fun b hb o e =>
          let z := I'.pin (b, o) (List.mem_append_right _ (List.mem_append_right _ (mem_pinsAt hb e)))
          ⟨z.1, z.2.1⟩
        refine ⟨m', hm, i + 1, H', (I'.unpinned (pins := [])).weak (by rw [← hw8, wipe_length]) (fun j v e => by rw [← hw8] at e; exact (wipe_some e).1), T.keep _ _ _ st7 fun b hb o e => (pin' b hb o e).1, fun b hb => ?_, w'⟩
        obtain ⟨o, e, _⟩ := T.obj _ _ st7 b hb
        exact (pin' b hb o e).2
      cases b with
      | false =>
        simp only [Bool.false_eq_true, if_false] at q9 ⊢
        exact fin I9 q9
      | true =>
        simp only [if_true] at q9 ⊢
        refine thnF (pk.run _ s9 σ8 H9 _ I9 q9) fun z s10 ⟨yk, H10, I10, r10, q10⟩ => ?_
        refine thnF (pe.run _ s10 σ8 H10 _ I10 q10) fun z2 s11 ⟨yv, H11, I11, r11, H12, dp, nx⟩ => ?_
        exact d_dictPut (X := X.blk s3 H3 scope ce fp) hu I11 dp r10 r11 fun s12 I12 => fin I12 nx
  exact codeAny_compStart_dict loop (T.self X.A 0 _ _ _ st4 loop)
theorem pe_dw {t : Bool} {kx vx tg iter : Expr} {ifs : List Expr} {scope : Scope} {own : List (Str × Nat)} {pos : Pos} {wi : TI} {g : TG} {tt : TT} {tk tv : TE} (hu : X.A.units + 1 < cLine) (hc : X.calm = true) (hN : X.N.Nodup) (hi : PI X tg iter wi) (ok : BlkOk X.N X.env.scope scope own)
    (hg : Bk X scope fun Y => PG Y tg g) (ht : Bk X scope fun Y => PTs Y ifs tt) (hk : Bk X scope fun Y => PE Y kx tk) (he : Bk X scope fun Y => PE Y vx tv) (hs : ∀ x, foldedSetIterable iter X.env x = pure x) :
    PE X (.DictComp kx vx [⟨tg, iter, ifs, 0⟩] scope pos) (tDw t wi g tt tk tv (own.map (·.2))) := by
  refine ⟨fun pins s σ H Q I h => ?_⟩
  rw [arm_eval_DictComp]
  refine dw_core hu hc hN I hi ok hg ht hk he hs h fun D C s' m H' I' q hn f => ⟨m, hn, fun h'' sb => ?_⟩
  obtain ⟨f0, f1, f2, f3, f4, f5⟩ := f
  exact ⟨.ref D, H', I'.turned (t' := s'.toks) (fun b o hb e => (sb.2 b hb).trans e) f0 f1 f3 f4 f5, rfl, q⟩
end
def addD (k : Nat) (tk tv : BE) : EnvD → AH → Option AH := fun σ A => match tk σ A with
  | some (.val (.p y) A1) => match tv σ A1 with
    | some (.val (.p z) A2) => putAt k y z A2
    | _ => none
  | _ => none
def bDc (t : Bool) (f : BI) (g : BG) (tt : BT) (tk tv : BE) (vs : List Nat) : BE := fun σ => (f σ).bind fun xs A => endC A.length (loopB g tt (addD A.length tk tv) xs (wipeD σ vs) (A ++ [some (.dic t [])]))
section
variable {X : Cx} {W : WX} {K : PySem.W.Frag} {ρ ρ' : List Addr} {A A' : AH} {H H' : Hp} {σ : St} {σD : EnvD}
theorem addD_ok {k : Nat} {tk tv : BE} {σ1 : EnvD} {ρb ρ4 : List Addr} {Ab A4 : AH} {Hb H4 : Hp} {σ2 : St} {D0 : Addr} {Fin : Option AH → Prop} {nx : AH → Option AH} (hnone : ¬ Fin none) (hD : ρb[k]? = some D0)
    (s : Step K ρb Ab Hb ρ4 A4 H4) (e : RelEnv K ρ4 A4 H4 σ1 σ2) (o : Fin (match addD k tk tv σ1 A4 with
      | some A5 => nx A5
      | none => none)) :
    tE K W0 tk σ2 H4 fun y H5 => tE K W0 tv σ2 H5 fun z H6 => ∃ H7, DPut H6 D0 y z H7 ∧ (fun H8 => ∃ ρ6 A6, Step K ρb Ab Hb ρ6 A6 H8 ∧ Fin (nx A6)) H7 := by
  refine ⟨ρ4, A4, σ1, s.rep, e, ?_⟩
  unfold addD at o
  cases q : tk σ1 A4 with
  | none => rw [q] at o; exact (hnone o).elim
  | some w =>
    rw [q] at o
    cases w with
    | exc _ _ => exact (hnone o).elim
    | val d A5 =>
      cases d with
      | ref _ => exact (hnone o).elim
      | p y =>
        simp only at o
        intro ρ5 H5 v s5 rv
        refine ⟨ρ5, A5, σ1, s5.rep, e.step s.rep s5, ?_⟩
        cases q2 : tv σ1 A5 with
        | none => rw [q2] at o; exact (hnone o).elim
        | some w2 =>
          rw [q2] at o
          cases w2 with
          | exc _ _ => exact (hnone o).elim
          | val d2 A6 =>
            cases d2 with
            | ref _ => exact (hnone o).elim
            | p z =>
              simp only at o
              intro ρ6 H6 v2 s6 rv2
              cases q3 : putAt k y z A6 with
              | none => rw [q3] at o; exact (hnone o).elim
              | some A7 =>
                rw [q3] at o
                have hD6 := s6.pre _ _ (s5.pre _ _ (s.pre _ _ hD))
                obtain ⟨H7, dp, s7⟩ := putAt_ok s6.rep hD6 (rv.step s5.rep s6) rv2 q3
                exact ⟨H7, dp, ρ6, A7, ((s.trans s5).trans s6).trans s7, o⟩
theorem rDc {t : Bool} {is vs : List Nat} {f : BI} {g : BG} {tt : BT} {tk tv : BE} {Q : VK} (hs : ∀ i ∈ is, i ∈ vs) (h : tE K W (bDc t f g tt tk tv vs) σ H Q) : tDw t (tI K W f) (tGt K is g) (tT K W0 tt) (tE K W0 tk) (tE K W0 tv) vs σ H Q := by
  refine tG.mono (tG.bind (f := f) (R := RIt K) (R' := RelD K) h) fun J H1 ⟨ρ1, A1, σD, xs, r, e, rj, o⟩ D0 hD0 => ?_
  have hl := r.len
  have s1 : Step K ρ1 A1 H1 (ρ1 ++ [D0]) (A1 ++ [some (.dic t [])]) (upd H1 D0 (newD t)) := by
    refine Step.mut (p := D0) (o := .dic t []) (ho := newD t) r hD0 ?_
    cases t
    · exact .inl ⟨rfl, [], rfl, by simp only [RelKV]⟩
    · exact .inr ⟨rfl, [], rfl, by simp only [RelTV]⟩
  have hD1 : (ρ1 ++ [D0])[A1.length]? = some D0 := by rw [← hl, List.getElem?_append_right (Nat.le_refl _)]; simp
  let Fin : Option AH → Prop := fun r => OkE K W (RelD K) (endC A1.length r) ρ1 A1 σ H1 Q
  have hnone : ¬ Fin none := fun z => z
  refine ⟨fun i m H => m + i = xs.length ∧ ∃ ρ2 A2, Step K (ρ1 ++ [D0]) (A1 ++ [some (.dic t [])]) (upd H1 D0 (newD t)) ρ2 A2 H ∧ Fin (loopB g tt (addD A1.length tk tv) (xs.drop i) (wipeD σD vs) A2), ⟨xs.length, rfl, _, _, Step.refl s1.rep, o⟩, ?_⟩
  rintro i m H2 ⟨hm, ρ2, A2, s2, o2⟩
  obtain ⟨jg, js⟩ := rj ρ2 A2 H2 (s1.trans s2)
  cases hx : xs[i]? with
  | none =>
    have hlen : xs.length ≤ i := List.getElem?_eq_none_iff.mp hx
    have hi : i = xs.length := by omega
    subst hi
    rw [List.drop_length] at o2
    exact .inl ⟨js, endC_ok r (s1.trans s2) (s2.pre _ _ hD1) o2⟩
  | some p =>
    have hlt := (List.getElem?_eq_some_iff.mp hx).1
    have hd : xs.drop i = p :: xs.drop (i + 1) := by
      rw [List.drop_eq_getElem_cons hlt]; congr 1; exact (List.getElem?_eq_some_iff.mp hx).2
    rw [hd] at o2
    refine .inr ⟨(jg i p hx).1, fun H' => ∃ ρ6 A6, Step K (ρ1 ++ [D0]) (A1 ++ [some (.dic t [])]) (upd H1 D0 (newD t)) ρ6 A6 H' ∧ Fin (loopB g tt (addD A1.length tk tv) (xs.drop (i + 1)) (wipeD σD vs) A6),
      fun H' h => ⟨m - 1, by omega, by omega, h⟩, fun x H3 hy => ?_⟩
    obtain ⟨s3, rx⟩ := (jg i p hx).2 x H3 hy
    have e2 := ((e.step r s1).step s1.rep s2).wipe vs
    exact turn_ok hs hnone s2 s3 e2 rx o2 _ fun σ1 ρ4 A4 H4 σ2 s4 e4 o4 => addD_ok hnone hD1 s4 e4 o4
theorem e_dc {t : Bool} {kx vx tg iter : Expr} {ifs : List Expr} {scope : Scope} {own : List (Str × Nat)} {is : List Nat} {pos : Pos} {f : BI} {g : BG} {tt : BT} {tk tv : BE} (hu : X.A.units + 1 < cLine) (hc : X.calm = true) (hN : X.N.Nodup) (hi : PI X tg iter (tI X.K W f)) (ok : BlkOk X.N X.env.scope scope own)
    (his : ∀ i ∈ is, i ∈ own.map (·.2)) (hg : Bk X scope fun Y => PG Y tg (tGt X.K is g)) (ht : Bk X scope fun Y => PTs Y ifs (tT X.K W0 tt)) (hk : Bk X scope fun Y => PE Y kx (tE X.K W0 tk)) (he : Bk X scope fun Y => PE Y vx (tE X.K W0 tv)) (hs : ∀ x, foldedSetIterable iter X.env x = pure x := by intro _; rfl) :
    PE X (.DictComp kx vx [⟨tg, iter, ifs, 0⟩] scope pos) (tE X.K W (bDc t f g tt tk tv (own.map (·.2)))) :=
  (pe_dw hu hc hN hi ok hg ht hk he hs).imp fun σ H Q h => rDc his h
end
end PF

/-! text PF12 -/
set_option Elab.async false
set_option linter.all false
set_option maxRecDepth 100000
set_option maxHeartbeats 1000000
/-! PF12: methods of lists; list, tuple, all, any, dict; starred displays. -/
namespace PF
open PySem L2 PySem.Spec PyProof.Rows
section
variable {X : Cx} {W : WX} {K : PySem.W.Frag} {ρ ρ' : List Addr} {A A' : AH} {H H' : Hp} {σ : St} {σD : EnvD}

/-! ### a method of a built-in -/
def isLst (x : D) (A : AH) : Bool := (lstOf x A).isSome
def bBM (g : D → List D → M D) (fo : BE) (fa : BA) : BE := fun σ => (fo σ).bind fun x => M.bind (fun A => if isLst x A then some (.val () A) else none) fun _ => (fa σ).bind fun ds => g x ds
def RMD (K : PySem.W.Frag) (W : WX) (g : D → List D → M D) (r : V → List V → Hp → VK → Prop) : Prop := ∀ ρ A (σ : St) H d ds v vs Q, Rep K ρ A H → RelD K ρ A H d v → RelDs K ρ A H ds vs → OkE K W (RelD K) (g d ds A) ρ A σ H Q → r v vs H Q
theorem rBM {g : D → List D → M D} {r : V → List V → Hp → VK → Prop} {fo : BE} {fa : BA} {Q : VK} (hg : RMD K W g r) (h : tE K W (bBM g fo fa) σ H Q) : tBM K "list" r (tE K W fo) (tA K W fa) σ H Q := by
  refine tG.mono (tG.bind (f := fo) h) fun v H1 ⟨ρ1, A1, σD, x, r1, e1, rx, o1⟩ => ?_
  obtain ⟨c, o1⟩ := guard_ok (c := isLst x A1) o1
  unfold isLst at c
  cases q : lstOf x A1 with
  | none => rw [q] at c; cases c
  | some xs =>
    obtain ⟨a, vs, rfl, hs, _⟩ := rd_lst r1 rx q
    refine ⟨.inl ⟨rfl, vs, .inl (.inl hs)⟩, ρ1, A1, σD, r1, e1, (OkE.bind (R := RelDs K) o1).mono fun us H2 ⟨ρ2, A2, ds, s2, rd, o2⟩ => ?_⟩
    exact hg ρ2 A2 σ H2 x ds _ us Q s2.rep (rx.step r1 s2) rd o2
def gAppend : D → List D → M D := fun x ds A => match x, ds with
  | .ref j, [.p q] => match A[j]? with
    | some (some (.lst xs)) => if xs.length < sizeLine then some (.val (.p .non) (A.set j (some (.lst (xs ++ [q]))))) else none
    | _ => none
  | _, _ => none
theorem m_append : RMD K W gAppend rAppend := by
  intro ρ A σ H d ds v vs Q r rd rds o
  unfold gAppend at o
  split at o
  · rename_i j q
    split at o
    · rename_i xs hA
      split at o
      · rename_i hl
        obtain ⟨p, hp, rfl⟩ := rd
        obtain ⟨u, w, rfl, ru, e3⟩ := rds
        cases e3
        obtain ⟨us, h1, h2⟩ := r.obj j p _ hp hA
        have s := Step.write (u := .lst (xs ++ [q])) (ho := .lst (us ++ [u])) r hp hA ⟨_, rfl, RelPs.append h2 (by simp only [RelPs]; exact ⟨u, [], rfl, ru, rfl⟩)⟩
        exact ⟨p, us, u, rfl, rfl, h1, by rw [← h2.length]; exact hl, o _ _ _ s (by simp only [RelD, RelP])⟩
      · exact o.elim
    · exact o.elim
  · exact o.elim
def gExtend : D → List D → M D := fun x ds A => match x, ds with
  | .ref j, [d] => match A[j]?, lstOf d A with
    | some (some (.lst xs)), some ys => if xs.length + ys.length ≤ sizeLine then some (.val (.p .non) (A.set j (some (.lst (xs ++ ys))))) else none
    | _, _ => none
  | _, _ => none
theorem m_extend : RMD K W gExtend rExtend := by
  intro ρ A σ H d ds v vs Q r rd rds o
  unfold gExtend at o
  split at o
  · rename_i j d
    split at o
    · rename_i xs ys hA hy
      split at o
      · rename_i hl
        obtain ⟨p, hp, rfl⟩ := rd
        obtain ⟨u, w, rfl, ru, e3⟩ := rds
        cases e3
        obtain ⟨us, h1, h2⟩ := r.obj j p _ hp hA
        obtain ⟨b, ws, rfl, hb, h3⟩ := rd_lst r ru hy
        have s := Step.write (u := .lst (xs ++ ys)) (ho := .lst (us ++ ws)) r hp hA ⟨_, rfl, RelPs.append h2 h3⟩
        exact ⟨p, b, us, ws, rfl, rfl, h1, hb, by rw [← h2.length, ← h3.length]; exact hl, o _ _ _ s (by simp only [RelD, RelP])⟩
      · exact o.elim
    · exact o.elim
  · exact o.elim
theorem e_append {o e : Expr} {es : List Expr} {fo : BE} {fa : BA} {apos cpos : Pos} (ho : PE X o (tE X.K W fo)) (ha : PA X (e :: es) (tA X.K W fa))
    (hbase : attributeBase o "append" X.env (eval o X.env) = eval o X.env := by rfl)
    (hfew : ((backTo cpos (starEach (e :: es) X.env)).all (fun x => !x.1) && (backToKw cpos (keywordEach [] X.env)).all (fun x => x.1.isSome)
      && decide ((e :: es).length + ([] : List Keyword).length + (if ([] : List Keyword).isEmpty then 0 else 1) < 30)) = true := by rfl)
    (hline : (apos.endLine == cpos.line) = true := by rfl) (hs : starEach (e :: es) X.env = (false, eval e X.env) :: starEach es X.env := by rfl) (hplain : (backTo cpos (starEach es X.env)).any (·.1) = false := by rfl) :
    PE X (.Call (.Attribute o "append" apos) (e :: es) [] cpos) (tE X.K W (bBM gAppend fo fa)) :=
  (pe_bm PySem.F.plainAttrs_list PySem.F.slot_list_append PySem.F.type_list_append mt_append ho ha hbase hfew hline hs hplain).imp fun σ H Q h => rBM m_append h
theorem e_extend {o e : Expr} {es : List Expr} {fo : BE} {fa : BA} {apos cpos : Pos} (ho : PE X o (tE X.K W fo)) (ha : PA X (e :: es) (tA X.K W fa))
    (hbase : attributeBase o "extend" X.env (eval o X.env) = eval o X.env := by rfl)
    (hfew : ((backTo cpos (starEach (e :: es) X.env)).all (fun x => !x.1) && (backToKw cpos (keywordEach [] X.env)).all (fun x => x.1.isSome)
      && decide ((e :: es).length + ([] : List Keyword).length + (if ([] : List Keyword).isEmpty then 0 else 1) < 30)) = true := by rfl)
    (hline : (apos.endLine == cpos.line) = true := by rfl) (hs : starEach (e :: es) X.env = (false, eval e X.env) :: starEach es X.env := by rfl) (hplain : (backTo cpos (starEach es X.env)).any (·.1) = false := by rfl) :
    PE X (.Call (.Attribute o "extend" apos) (e :: es) [] cpos) (tE X.K W (bBM gExtend fo fa)) :=
  (pe_bm PySem.F.plainAttrs_list PySem.F.slot_list_extend PySem.F.type_list_extend mt_extend ho ha hbase hfew hline hs hplain).imp fun σ H Q h => rBM m_extend h

/-! ### list, tuple, all, any -/
def oList : BL := fun ds A => match ds with
  | [d] => match seqOf d A with
    | some xs => some (.val (.p (.lst xs)) A)
    | none => none
  | _ => none
theorem l_list : RLD K W oList (fun xs H Q => ∃ p ys, xs = [.ref p] ∧ (SqL K H p ys ∨ SqT K H p ys) ∧ ∀ l, H l = none → Q (.ref l) (upd H l (.lst ys))) := by
  intro ρ A σ H ds vs Q r rd o
  unfold oList at o
  split at o
  · rename_i d
    split at o
    · rename_i xs hx
      obtain ⟨v, w, rfl, rv, e3⟩ := rd
      cases e3
      obtain ⟨a, ys, rfl, hs, rp⟩ := rd_seq r rv hx
      refine ⟨a, ys, rfl, hs, fun l hl => ?_⟩
      have s := Step.laid r (.lst ys) hl
      exact o _ _ _ s (by simp only [RelD, RelP]; exact ⟨l, ys, rfl, r.notNone hl, upd_same, rp.step r s⟩)
    · exact o.elim
  · exact o.elim
def oTuple : BL := fun ds A => match ds with
  | [d] => match tupOf d with
    | some _ => some (.val d A)
    | none => match seqOf d A with
      | some xs => some (.val (.p (.tup xs)) A)
      | none => none
  | _ => none
theorem l_tuple : RLD K W oTuple (fun xs H Q => ∃ p ys, xs = [.ref p] ∧ ((SqL K H p ys ∧ ∀ l, H l = none → Q (.ref l) (upd H l (.tup ys))) ∨ (SqT K H p ys ∧ Q (.ref p) H))) := by
  intro ρ A σ H ds vs Q r rd o
  unfold oTuple at o
  split at o
  · rename_i d
    obtain ⟨v, w, rfl, rv, e3⟩ := rd
    cases e3
    split at o
    · rename_i xs ht
      obtain ⟨a, ys, rfl, hs, rp⟩ := rd_tup rv ht
      exact ⟨a, ys, rfl, .inr ⟨hs, o _ _ _ (Step.refl r) rv⟩⟩
    · rename_i ht
      split at o
      · rename_i xs hx
        have hx' : ∃ a ys, v = .ref a ∧ SqL K H a ys ∧ RelPs K (Lv ρ A) H xs ys := by
          unfold seqOf at hx
          rw [ht] at hx
          simp only at hx
          split at hx
          · rename_i hl
            cases hx
            obtain ⟨a, ys, e, hs, rp⟩ := rd_lst r rv hl
            exact ⟨a, ys, e, .inl (.inl hs), rp⟩
          · split at hx
            · cases hx
              simp only [RelD, RelP] at rv
              obtain ⟨a, ys, e, hs, rp⟩ := rv
              exact ⟨a, ys, e, hs.sq, rp⟩
            · cases hx
        obtain ⟨a, ys, rfl, hs, rp⟩ := hx'
        refine ⟨a, ys, rfl, .inl ⟨hs, fun l hl => ?_⟩⟩
        have s := Step.laid r (.tup ys) hl
        exact o _ _ _ s (by simp only [RelD, RelP]; exact ⟨l, ys, rfl, upd_same, rp.step r s⟩)
      · exact o.elim
  · exact o.elim
def blsOf : List P → Option (List Bool)
  | [] => some []
  | .bl b :: r => (blsOf r).map (b :: ·)
  | _ :: _ => none
theorem rel_bls {L : Addr → Prop} : ∀ {xs : List P} {vs : List V} {bs : List Bool}, RelPs K L H xs vs → blsOf xs = some bs → vs = bs.map V.bl
  | [], vs, bs, h, e => by cases e; simp only [RelPs] at h; subst h; rfl
  | x :: r, vs, bs, h, e => by
    simp only [RelPs] at h
    obtain ⟨v, w, rfl, a, b⟩ := h
    unfold blsOf at e
    split at e
    · rename_i h0; cases h0
    · rename_i b0 r0 h0
      cases h0
      cases q : blsOf r with
      | none => rw [q] at e; cases e
      | some cs =>
        rw [q] at e; cases e
        simp only [RelP] at a
        rw [a, rel_bls b q]; rfl
    · cases e
def oAll : BL := fun ds A => match ds with
  | [d] => match lstOf d A with
    | some xs => match blsOf xs with
      | some bs => some (.val (.p (.bl (bs.all id))) A)
      | none => none
    | none => none
  | _ => none
def oAny : BL := fun ds A => match ds with
  | [d] => match lstOf d A with
    | some xs => match blsOf xs with
      | some bs => some (.val (.p (.bl (bs.any id))) A)
      | none => none
    | none => none
  | _ => none
theorem l_all : RLD K W oAll (rAll K) := by
  intro ρ A σ H ds vs Q r rd o
  unfold oAll at o
  split at o
  · rename_i d
    obtain ⟨v, w, rfl, rv, e3⟩ := rd
    cases e3
    split at o
    · rename_i xs hx
      split at o
      · rename_i bs hb
        obtain ⟨a, ys, rfl, hs, rp⟩ := rd_lst r rv hx
        exact ⟨a, bs, rfl, .inl (.inl (by rw [← rel_bls rp hb]; exact hs)), o _ _ _ (Step.refl r) (by simp only [RelD, RelP])⟩
      · exact o.elim
    · exact o.elim
  · exact o.elim
theorem l_any : RLD K W oAny (rAny K) := by
  intro ρ A σ H ds vs Q r rd o
  unfold oAny at o
  split at o
  · rename_i d
    obtain ⟨v, w, rfl, rv, e3⟩ := rd
    cases e3
    split at o
    · rename_i xs hx
      split at o
      · rename_i bs hb
        obtain ⟨a, ys, rfl, hs, rp⟩ := rd_lst r rv hx
        exact ⟨a, bs, rfl, .inl (.inl (by rw [← rel_bls rp hb]; exact hs)), o _ _ _ (Step.refl r) (by simp only [RelD, RelP])⟩
      · exact o.elim
    · exact o.elim
  · exact o.elim

/-! ### dict of a list of pairs: a new dict, to be changed -/
def pairsOf : List P → Option (List (P × P))
  | [] => some []
  | .tup [k, x] :: r => match keyOf k, pairsOf r with
    | some _, some kvs => some ((k, x) :: kvs)
    | _, _ => none
  | _ :: _ => none
def mergeD (kvs more : List (P × P)) : List (P × P) := more.foldl (fun acc kv => putD false acc kv.1 kv.2) kvs
def oDictP : BL := fun ds A => match ds with
  | [d] => match lstOf d A with
    | some xs => match pairsOf xs with
      | some kvs => some (.val (.ref A.length) (A ++ [some (.dic false (mergeD [] kvs))]))
      | none => none
    | none => none
  | _ => none
theorem rel_pairs {L : Addr → Prop} : ∀ {xs : List P} {vs : List V} {kvs : List (P × P)}, RelPs K L H xs vs → pairsOf xs = some kvs → ∃ (ps : List Addr) (l : List (Key × V)), vs = ps.map V.ref ∧ Paired (fun p kv => SqT K H p [kV kv.1, kv.2]) ps l ∧ RelKV K L H kvs l
  | [], vs, kvs, h, e => by cases e; simp only [RelPs] at h; subst h; exact ⟨[], [], rfl, .nil, by simp only [RelKV]⟩
  | x :: r, vs, kvs, h, e => by
    simp only [RelPs] at h
    obtain ⟨v, w, rfl, a, b⟩ := h
    unfold pairsOf at e
    split at e
    · rename_i h0; cases h0
    · rename_i k y r0 h0
      cases h0
      split at e
      · rename_i q kvs' h1 h2
        cases e
        obtain ⟨ps, l, rfl, hp, hr⟩ := rel_pairs b h2
        simp only [RelP, RelPs] at a
        obtain ⟨p, us, rfl, hs, v1, w1, rfl, r1, v2, w2, rfl, r2, rfl⟩ := a
        refine ⟨p :: ps, (q, v2) :: l, rfl, .cons (SqT.of (by rw [hs, rel_key r1 h1])) hp, ?_⟩
        simp only [RelKV]
        exact ⟨q, v2, l, rfl, h1, r2, hr⟩
      · cases e
    · cases e
theorem RelKV.merge {L : Addr → Prop} : ∀ {more : List (P × P)} {m : List (Key × V)} {kvs : List (P × P)} {l : List (Key × V)}, RelKV K L H more m → RelKV K L H kvs l → RelKV K L H (mergeD kvs more) (mergeK l m)
  | [], m, kvs, l, h, g => by simp only [RelKV] at h; subst h; exact g
  | (k, x) :: r, m, kvs, l, h, g => by
    simp only [RelKV] at h
    obtain ⟨q, v, w, rfl, hk, hx, hr⟩ := h
    show RelKV K L H (mergeD (putD false kvs k x) r) (mergeK (putK l q v) w)
    exact RelKV.merge hr (RelKV.put hk hx g)
theorem l_dictP : RLD K W oDictP (fun xs H Q => ∃ (a : Addr) (ps : List Addr) (kvs : List (Key × V)), xs = [.ref a] ∧ SqL K H a (ps.map V.ref) ∧ Paired (fun p kv => SqT K H p [kV kv.1, kv.2]) ps kvs ∧ ∀ p, H p = none → Q (.ref p) (upd H p (.dK (mergeK [] kvs)))) := by
  intro ρ A σ H ds vs Q r rd o
  unfold oDictP at o
  split at o
  · rename_i d
    obtain ⟨v, w, rfl, rv, e3⟩ := rd
    cases e3
    split at o
    · rename_i xs hx
      split at o
      · rename_i kvs hb
        obtain ⟨a, ys, rfl, hs, rp⟩ := rd_lst r rv hx
        obtain ⟨ps, l, rfl, hp, hr⟩ := rel_pairs rp hb
        refine ⟨a, ps, l, rfl, .inl (.inl hs), hp, fun p hn => ?_⟩
        have s := Step.mut (p := p) (o := .dic false (mergeD [] kvs)) (ho := .dK (mergeK [] l)) r hn (.inl ⟨rfl, _, rfl, RelKV.merge hr (by simp only [RelKV])⟩)
        exact o _ _ _ s ⟨p, by rw [← r.len, List.getElem?_append_right (Nat.le_refl _)]; simp, rfl⟩
      · exact o.elim
    · exact o.elim
  · exact o.elim
end
end PF

/-! text PF13 -/
set_option Elab.async false
set_option linter.all false
set_option maxRecDepth 100000
set_option maxHeartbeats 1000000
/-! PF13: own classes: defs as raw callees, instances made, attributes, static and class methods, properties. -/
namespace PF
open PySem L2 PySem.Spec PyProof.Rows
def spR (K : PySem.W.Frag) (F : BF) : Sp := fun vs H Q E => ∃ ρ A ds, Rep K ρ A H ∧ RelDs K ρ A H ds vs ∧ OkF K (F ds A) ρ A H Q E
section
variable {P : Program} {w : World} {K : PySem.W.Frag} {mg : Str → Option Value} {base : Heap} {k n : Nat} {f : Addr} {fd : FuncData} {ps : List Str} {F : BF} {vv : List V} {dvs : List Value}
/-- a def as a raw callee, its defaults filled in -/
theorem fn_raw {dv : List PF.P} (G : FnOk P w K mg base (L2.CX P w) k f fd ps (spF K n F)) (hn : ∀ ds A r, F ds A = some r → ds.length = n) (hb : Binds K fd ps dvs) (hd : Plain K dv vv dvs) :
    FnR P w K mg base (L2.CX P w) k f (spR K fun ds => F (ds ++ dv.map .p)) :=
  (G.raw hb hd.vals).imp fun vs H Q E ⟨ρ, A, ds, r, rd, o⟩ => by
    have rd2 : RelDs K ρ A H (ds ++ dv.map .p) (vs ++ vv) := rd.append hd.rel
    have o : OkF K (F (ds ++ dv.map .p) A) ρ A H Q E := o
    cases q : F (ds ++ dv.map .p) A with
    | none => rw [q] at o; exact o.elim
    | some z => exact ⟨by rw [← rd2.length]; exact hn _ _ _ q, ρ, A, _, r, rd2, o⟩
theorem fnR_imp {F' : BF} (G : FnR P w K mg base (L2.CX P w) k f (spR K F)) (h : Le F' F) : FnR P w K mg base (L2.CX P w) k f (spR K F') :=
  G.imp fun vs H Q E ⟨ρ, A, ds, r, rd, o⟩ => ⟨ρ, A, ds, r, rd, by
    cases e : F' ds A with
    | none => rw [e] at o; exact o.elim
    | some z => rw [e] at o; rw [h ds A z e]; exact o⟩
/-- def f(a, .., *v) -/
def starF (n : Nat) (F : BF) : BF := fun ds A => match pures (ds.drop n) with
  | some xs => if n ≤ ds.length ∧ xs.length ≤ sizeLine then F (ds.take n ++ [.p (.tup xs)]) A else none
  | none => none
end
section
variable {X : Cx} {W : WX} {K : PySem.W.Frag} {ρ ρ' : List Addr} {A A' : AH} {H H' : Hp} {σ : St} {σD : EnvD}
theorem RelDs.take : ∀ {ds : List D} {vs : List V} (n : Nat), RelDs K ρ A H ds vs → RelDs K ρ A H (ds.take n) (vs.take n) ∧ RelDs K ρ A H (ds.drop n) (vs.drop n)
  | [], _, n, h => by cases h; simp [RelDs]
  | x :: r, _, 0, ⟨v, w, e, a, b⟩ => by subst e; exact ⟨by simp [RelDs], ⟨v, w, rfl, a, b⟩⟩
  | x :: r, _, n + 1, ⟨v, w, e, a, b⟩ => by
    subst e
    obtain ⟨h1, h2⟩ := RelDs.take n b
    exact ⟨⟨v, w.take n, rfl, a, h1⟩, h2⟩
/-- what a starred def's promise is, told of a function -/
theorem spR_star {n : Nat} {F : BF} {vs : List V} {Q : VK} {E : XK} (h : spR K (starF n F) vs H Q E) :
    ∃ ws rest, vs = ws ++ rest ∧ ws.length = n ∧ rest.length ≤ sizeLine ∧ ∀ p, H p = none → spF K (n + 1) F (ws ++ [V.ref p]) (upd H p (.tup rest)) Q E := by
  obtain ⟨ρ, A, ds, r, rd, o⟩ := h
  unfold starF at o
  cases q : pures (ds.drop n) with
  | none => rw [q] at o; exact o.elim
  | some xs =>
    rw [q] at o
    simp only at o
    by_cases c : n ≤ ds.length ∧ xs.length ≤ sizeLine
    · rw [if_pos c] at o
      obtain ⟨h1, h2⟩ := RelDs.take n rd
      have rp := RelDs.pures q h2
      have hl := rd.length
      refine ⟨vs.take n, vs.drop n, (List.take_append_drop n vs).symm, by rw [List.length_take]; omega, by rw [← rp.length]; exact c.2, fun p hp => ?_⟩
      have s := Step.laid (p := p) r (.tup (vs.drop n)) hp
      refine ⟨by rw [List.length_append, List.length_take]; simp; omega, ρ, A, _, s.rep, (RelDs.step r s h1).append (show RelDs K ρ A _ [.p (.tup xs)] [V.ref p] from ⟨.ref p, [], rfl, ?_, rfl⟩), ?_⟩
      · simp only [RelD, RelP]
        exact ⟨p, _, rfl, upd_same, rp.step r s⟩
      · exact OkE.step s o
    · rw [if_neg c] at o; exact o.elim
/-- a raw callee runs -/
theorem run_FA {k : Nat} {f : Addr} {sp : Sp} {E : XK} {Q : VK} {us : List Value} {vs : List V} {pins : List (Addr × Obj)} {s : Shared} {A' : Around} (G : FnR X.prog X.w X.K X.mg X.base (L2.CX X.prog X.w) k f sp) (hr : Room k A') (e0 : Env0 X.prog X.w X.K X.mg X.base A' X.stack s H)
    (hx : PassesAt (L2.CX X.prog X.w) X σ E) (I : Inv X pins σ H s) (r : Vals vs us) (h : sp vs H Q E) : wpAny (model X.prog X.w) A' (call (.ref f) us) (EP X pins σ Q) X.xe s := by
  refine wpAny_call (codeAny_mono (G A' X.stack s H us vs Q E hr e0 r h) fun r s' hq => ?_)
  cases r with
  | error e => exact hx pins H s e s' I hq
  | ok fl =>
    cases fl with
    | ret u => exact I.after hq
    | next => exact False.elim hq
    | brk => exact False.elim hq
    | cont => exact False.elim hq
/-! ### C(e, ..) -/
theorem run_mk {C f : Addr} {k : Nat} {sp : Sp} {E : XK} {pins : List (Addr × Obj)} {s : Shared} {Q : VK} {us : List Value} {vs : List V} (M : Mk X.K C f) (G : FnR X.prog X.w X.K X.mg X.base (L2.CX X.prog X.w) k f sp) (hr : Room (k + 1) X.A)
    (hx : PassesAt (L2.CX X.prog X.w) X σ E) (I : Inv X pins σ H s) (r : Vals vs us)
    (h : ∀ x dx, H x = none → H dx = none → dx ≠ x → sp (.ref x :: vs) (upd (upd H dx (.own x)) x (.ins C dx [])) (fun v H2 => v = .non ∧ Q (.ref x) H2) E) :
    wpAny (model X.prog X.w) X.A (call (.ref C) us) (EP X pins σ Q) X.xe s := by
  have hq := h (s.heap.objs.size + 1) s.heap.objs.size (I.hok.fresh (Nat.le_succ _)) (I.hok.fresh (Nat.le_refl _)) (Nat.ne_of_lt (Nat.lt_succ_self _))
  have I2 := Inv.made (C := C) I
  have r2 : Vals (V.ref (s.heap.objs.size + 1) :: vs) (Value.ref (s.heap.objs.size + 1) :: us) := .cons rfl r
  refine wpAny_call (make_map (f := f) I.kIn M.makes M.init (beq_iff_eq.mp M.fn) (codeAny_mono (G _ X.stack _ _ _ _ _ E (hr.make C us []) (I2.env0.make C us []) r2 hq) fun r s' hq' => ?_))
  cases r with
  | error e => exact hx pins _ _ e s' I2 hq'
  | ok fl =>
    cases fl with
    | ret u =>
      obtain ⟨v, H', I3, rv, ev, q3⟩ := I2.after hq'
      subst ev
      exact ⟨rv, ⟨V.ref (s.heap.objs.size + 1), H', I3, rfl, q3⟩⟩
    | next => exact False.elim hq'
    | brk => exact False.elim hq'
    | cont => exact False.elim hq'
/-- the new instance is an object of its own, to be changed -/
def mkD (C : Addr) (F : BF) (ds : List D) : M D := fun A => match F (.ref A.length :: ds) (A ++ [some (.ins C [])]) with
  | some (.val (.p .non) A') => some (.val (.ref A.length) A')
  | some (.exc x A') => some (.exc x (A'.take A.length))
  | _ => none
theorem mk_ok {C : Addr} {F : BF} {ds : List D} {vs : List V} {Q : VK} (r : Rep K ρ A H) (rd : RelDs K ρ A H ds vs) (o : OkE K W (RelD K) (mkD C F ds A) ρ A σ H Q) :
    ∀ x dx, H x = none → H dx = none → dx ≠ x → spR K F (.ref x :: vs) (upd (upd H dx (.own x)) x (.ins C dx [])) (fun v H2 => v = .non ∧ Q (.ref x) H2) (WE W σ) := by
  intro x dx hx hd hne
  have s1 := Step.laid (p := dx) r (.own x) hd
  have hx1 : upd H dx (.own x) x = none := by rw [upd_ne (Ne.symm hne)]; exact hx
  have s2 := Step.mut (p := x) (o := .ins C []) (ho := .ins C dx []) s1.rep hx1 ⟨dx, [], rfl, by simp only [RelFs]⟩
  have s := s1.trans s2
  have hl := r.len
  have hpos : (ρ ++ [x])[A.length]? = some x := by rw [← hl, List.getElem?_append_right (Nat.le_refl _)]; simp
  refine ⟨ρ ++ [x], A ++ [some (.ins C [])], .ref A.length :: ds, s.rep, ⟨.ref x, vs, rfl, ⟨x, hpos, rfl⟩, RelDs.step r s rd⟩, ?_⟩
  unfold mkD at o
  cases q : F (.ref A.length :: ds) (A ++ [some (.ins C [])]) with
  | none => rw [q] at o; exact o.elim
  | some z =>
    rw [q] at o
    cases z with
    | val d A' =>
      cases d with
      | ref _ => exact o.elim
      | p y =>
        cases y with
        | non => exact fun ρ' H' v s3 rv => ⟨by simpa only [RelD, RelP] using rv, o ρ' H' _ (s.trans s3) ⟨x, s3.pre _ _ hpos, rfl⟩⟩
        | _ => exact o.elim
    | exc e A' =>
      intro ρ' H' c dx' s3 rx
      have s4 := (s.trans s3).trunc ρ.length (Nat.le_refl _)
      rw [hl] at s4
      refine o _ H' c dx' s4 ?_
      obtain ⟨e1, e2⟩ := rx
      exact ⟨e1, e2.imp id fun ⟨d, vs, a, b, c⟩ => ⟨d, vs, a, b, RelFs.trunc s3.rep A.length c⟩⟩
def bMk (C : Addr) (F : BF) (a : BA) : BE := fun σ => (a σ).bind fun ds => mkD C F ds
theorem e_mk {C f : Addr} {k : Nat} {F : BF} {a : BA} {x : Str} {e : Expr} {es : List Expr} {p pos : Pos} (M : Mk X.K C f) (G : FnR X.prog X.w X.K X.mg X.base (L2.CX X.prog X.w) k f (spR X.K F)) (tk : Takes X W) (hr : Room (k + 1) X.A) (hg : Gl X x) (hm : X.mg x = some (.ref C))
    (ha : PA X (e :: es) (tA X.K W a)) (hdb : (x == ("__debug__" : Str)) = false := by decide) (he : starEach (e :: es) X.env = (false, eval e X.env) :: starEach es X.env := by rfl) (hpl : (backTo pos (starEach es X.env)).any (·.1) = false := by rfl) :
    PE X (.Call (.Name x p) (e :: es) [] pos) (tE X.K W (bMk C F a)) := by
  refine ⟨fun pins s σ H Q I h => ?_⟩
  have h1 : tA X.K W a σ H _ := tG.bind (f := a) (R := RelDs X.K) h
  refine wpAny_Call_Name_kw (ld_glob I hg hm ?_ hdb)
  refine PySem.W.callWith_K (h₀ := X.base) I.ok.mod.kin M.kp (thn (ha.run pos pins s σ H _ I h1) fun us s1 ⟨vs, H1, I1, r, ρ1, A1, σD, ds, r1, e1, rd, o⟩ => ⟨I1.kIn, ?_⟩) he hpl
  exact run_mk M G hr (passAt tk σ) I1 r (mk_ok r1 rd o)
/-- e(..), e a value that is the class at C (cls(..) in a classmethod) -/
def bMkV (C : Addr) (F : BF) (fe : BE) (a : BA) : BE := fun σ => (fe σ).bind fun c A => match c with
  | .p (.rf C') => if C' = C then ((a σ).bind fun ds => mkD C F ds) A else none
  | _ => none
theorem e_mkV {C f : Addr} {k : Nat} {F : BF} {fe : BE} {a : BA} {x : Str} {e : Expr} {es : List Expr} {p pos : Pos} (M : Mk X.K C f) (G : FnR X.prog X.w X.K X.mg X.base (L2.CX X.prog X.w) k f (spR X.K F)) (tk : Takes X W) (hr : Room (k + 1) X.A) (hf : PE X (.Name x p) (tE X.K W fe))
    (ha : PA X (e :: es) (tA X.K W a)) (he : starEach (e :: es) X.env = (false, eval e X.env) :: starEach es X.env := by rfl) (hpl : (backTo pos (starEach es X.env)).any (·.1) = false := by rfl) :
    PE X (.Call (.Name x p) (e :: es) [] pos) (tE X.K W (bMkV C F fe a)) := by
  refine ⟨fun pins s σ H Q I h => ?_⟩
  have h0 : tE X.K W fe σ H _ := tG.bind (f := fe) (R := RelD X.K) h
  refine wpAny_Call_Name_kw (thn (hf.run pins s σ H _ I h0) fun u s0 ⟨c, H0, I0, rc, ρ0, A0, σ0, dc, r0, e0, rdc, o0⟩ => ?_)
  match dc, rdc, o0 with
  | .p (.rf C'), rdc, o0 =>
    simp only at o0
    by_cases hc : C' = C
    · subst hc
      rw [if_pos rfl] at o0
      simp only [RelD, RelP] at rdc
      subst rdc
      obtain rfl : u = Value.ref C' := rc
      have h1 : tA X.K W a σ H0 _ := ⟨ρ0, A0, σ0, r0, e0, OkE.bind (R := RelDs X.K) o0⟩
      refine PySem.W.callWith_K (h₀ := X.base) I0.ok.mod.kin M.kp (thn (ha.run pos pins s0 σ H0 _ I0 h1) fun us s1 ⟨vs, H1, I1, r, ρ1, A1, ds, s1', rd, o⟩ => ⟨I1.kIn, ?_⟩) he hpl
      exact run_mk M G hr (passAt tk σ) I1 r (mk_ok s1'.rep rd o)
    · rw [if_neg hc] at o0; exact o0.elim
  | .p .non, _, o0 => exact o0.elim
  | .p (.bl _), _, o0 => exact o0.elim
  | .p (.int _), _, o0 => exact o0.elim
  | .p (.str _), _, o0 => exact o0.elim
  | .p (.tup _), _, o0 => exact o0.elim
  | .p (.ktup _), _, o0 => exact o0.elim
  | .p (.lst _), _, o0 => exact o0.elim
  | .p (.klst _), _, o0 => exact o0.elim
  | .p (.dic _ _), _, o0 => exact o0.elim
  | .p (.obj _ _), _, o0 => exact o0.elim
  | .p (.ty _), _, o0 => exact o0.elim
  | .ref _, _, o0 => exact o0.elim

/-! ### e.f -/
/-- the attribute f of instances of the class at C is a plain one -/
structure Fd (K : PySem.W.Frag) (f : Str) (C : Addr) : Prop where
  cl : Cls K C
  na : NoAttr K C f
def bFld (cs : List Addr) (f : Str) (fo : BE) : BE := fun σ => (fo σ).bind fun d A => match insOf d A with
  | some (C, fs) => if C ∈ cs then match fs.lookup f with
      | some q => some (.val (.p q) A)
      | none => none
    else none
  | none => none
theorem e_fld {cs : List Addr} {e : Expr} {f : Str} {pos : Pos} {fo : BE} (hf : ∀ C ∈ cs, Fd X.K f C) (he : PE X e (tE X.K W fo)) (hb : attributeBase e f X.env (eval e X.env) = eval e X.env := by rfl) : PE X (.Attribute e f pos) (tE X.K W (bFld cs f fo)) := by
  refine (pe_fld he hb).imp fun σ H Q h => ?_
  refine tG.mono (tG.bind (f := fo) h) fun v H1 ⟨ρ1, A1, σD, d, r1, e1, rd, o⟩ => ?_
  cases q : insOf d A1 with
  | none => rw [q] at o; exact o.elim
  | some z =>
    obtain ⟨C, fs⟩ := z
    rw [q] at o
    simp only at o
    by_cases hc : C ∈ cs
    · rw [if_pos hc] at o
      cases q2 : fs.lookup f with
      | none => rw [q2] at o; exact o.elim
      | some x =>
        rw [q2] at o
        obtain ⟨p, dx, vs, rfl, h1, h2⟩ := insOf_rel r1 rd q
        obtain ⟨u, h3, h4⟩ := h2.lookup.2 x q2
        exact ⟨p, C, dx, vs, u, rfl, h1, (hf C hc).cl, (hf C hc).na, h3, o _ _ _ (Step.refl r1) h4⟩
    · rw [if_neg hc] at o; exact o.elim
/-- e.f = value -/
def putFP (f : Str) (x : P) : List (Str × P) → List (Str × P)
  | [] => [(f, x)]
  | (g, y) :: r => if g = f then (g, x) :: r else (g, y) :: putFP f x r
theorem RelFs.put {L : Addr → Prop} {f : Str} {x : P} {v : V} (hx : RelP K L H x v) : ∀ {fs : List (Str × P)} {vs : List (Str × V)}, RelFs K L H fs vs → RelFs K L H (putFP f x fs) (putF f v vs)
  | [], _, h => by simp only [RelFs] at h; subst h; simp only [putFP, RelFs]; exact ⟨v, [], rfl, hx, rfl⟩
  | (g, y) :: r, _, h => by
    simp only [RelFs] at h
    obtain ⟨u, w, rfl, a, b⟩ := h
    unfold putFP putF
    by_cases e : g = f
    · rw [if_pos e, if_pos e]; simp only [RelFs]; exact ⟨v, w, rfl, hx, b⟩
    · rw [if_neg e, if_neg e]; simp only [RelFs]; exact ⟨u, _, rfl, a, RelFs.put hx b⟩
theorem RelFs.length {L : Addr → Prop} : ∀ {fs : List (Str × P)} {vs : List (Str × V)}, RelFs K L H fs vs → fs.length = vs.length
  | [], _, h => by simp only [RelFs] at h; subst h; rfl
  | (g, y) :: r, _, h => by
    simp only [RelFs] at h
    obtain ⟨u, w, rfl, a, b⟩ := h
    simp [RelFs.length b]
def endFld (cs : List Addr) (f : Str) (dv d : D) (σ : EnvD) (A : AH) : Option SR := match d, dv with
  | .ref j, .p x => match A[j]? with
    | some (some (.ins C fs)) => if C ∈ cs ∧ fs.length < 1000 then some (.nx σ (A.set j (some (.ins C (putFP f x fs))))) else none
    | _ => none
  | _, _ => none
def sFld (cs : List Addr) (f : Str) (fo fv : BE) : BS := sThen fv fun dv => sThen fo fun d => endFld cs f dv d
theorem s_fld {cs : List Addr} {o value : Expr} {f : Str} {pos pos' : Pos} {fo fv : BE} (hf : ∀ C ∈ cs, Fd X.K f C) (ho : PE X o (tE X.K W fo)) (hv : PE X value (tE X.K W fv)) (hs : swapsWith value (some (.Attribute o f pos')) pos.line X.env = pure false := by rfl) :
    PS X (.Assign [.Attribute o f pos'] value pos) (tS X.K W (sFld cs f fo fv)) := by
  refine (ps_fld ho hv hs).imp fun D σ H ⟨ρ, A, σD, r, e, ok⟩ => ?_
  refine ⟨ρ, A, σD, r, e, (OkS.thn r e ok).mono fun v H1 ⟨ρ1, A1, dv, s1, rv, o1⟩ => ?_⟩
  have e1 := e.step r s1
  refine ⟨ρ1, A1, σD, s1.rep, e1, (OkS.thn s1.rep e1 o1).mono fun x H2 ⟨ρ2, A2, d, s2, rd, o2⟩ => ?_⟩
  have e2 := e1.step s1.rep s2
  have rv2 := rv.step s1.rep s2
  unfold endFld at o2
  split at o2
  · rename_i j x y
    split at o2
    · rename_i C fs hA
      split at o2
      · rename_i hc
        obtain ⟨p, hp, rfl⟩ := rd
        obtain ⟨dx, vs, h1, h2⟩ := s2.rep.obj j p _ hp hA
        have s3 := Step.write (u := .ins C (putFP f x fs)) (ho := .ins C dx (putF f v vs)) s2.rep hp hA ⟨dx, _, rfl, RelFs.put rv2 h2⟩
        exact ⟨p, C, dx, vs, rfl, h1, (hf C hc.1).cl, (hf C hc.1).na, by rw [← h2.length]; exact hc.2, o2 _ _ _ s3 (e2.step s2.rep s3)⟩
      · exact o2.elim
    · exact o2.elim
  · exact o2.elim
end
end PF

/-! text PF14 -/
set_option Elab.async false
set_option linter.all false
set_option maxRecDepth 100000
set_option maxHeartbeats 1000000
/-! PF14: operators of own classes. -/
namespace PF
open PySem L2 PySem.Spec PyProof.Rows
section
variable {prog : Program} {w : World} {A : Around} {E : Value → Shared → Prop} {s : Shared} {K : PySem.W.Frag} {x C L f : Addr} {h₀ : Heap} {m : Str → Option Value} {ox : Obj} {od : Option Obj} {b tb : Value}
open PySem.W in
/-- x != b by C's own __eq__ -/
theorem ne_own {Q : Value → Shared → Prop} (hu : A.units + 1 < cLine) (F : Fr h₀ L s.heap m) (X₀ : K.In h₀) (I : InstAt s.heap x ox C od) (hb : Looks (model prog w) s.heap (typeOf b) tb) (hn : notFirst K C tb = true)
    (hne : findIn K (.ref C) "__ne__" = some (some (.builtin "object.__ne__"))) (hm : mroIn K C (.type "object") = some true) (hs : findIn K (.ref C) "__eq__" = some (some (.ref f))) (hf : isFn K (.ref f) = true)
    (h : wpAny (model prog w) A.in1 (call (.ref f) [.ref x, b]) (fun v s' => ∃ k, v = .bool k ∧ Q (.bool (!k)) s') E s) : wpAny (model prog w) A (richCompare .NotEq (.ref x) b) Q E s := by
  have X := X₀.keeps F.keep
  have hu0 : A.units < cLine := by omega
  have call : wpAny (model prog w) A (PySem.call (.builtin "object.__ne__") [.ref x, b]) (fun v s' => ∃ k, v = .bool k ∧ Q (.bool k) s') E s := by
    refine wpAny_call (codeAny_call_builtin PySem.F.cmp_object.ne.plain PySem.F.cmpEntry_ne (PySem.W.check_slot (i := "object.__ne__") (owner := "object") (n := "__ne__") PySem.F.cmpKind_ne PySem.F.cmpSplit_ne (I.type.andThen (looks_mroIn X hm)) (PySem.F.cmpArgs_ne _ _) ?_))
    unfold Builtin.«object.__ne__»
    refine wpAny_bind (m := slotArgs "__ne__" 1 _) (wpAny_pure ?_)
    refine wpAny_bind (m := cRoomFor _ _) (wpAny_cRoomFor (show A.in1.units < cLine from hu) ?_)
    refine wpAny_bind (m := callSpecialIfBound? (.ref x) (Str.ofString "__eq__") _) (ifBound_K X I hs hf (wpAny_mono h (fun r s' hq => ?_) fun _ _ y => y))
    obtain ⟨k, rfl, hq⟩ := hq
    exact wpAny_bind (wpAny_pure (wpAny_pure ⟨_, rfl, hq⟩))
  have one : wpAny (model prog w) A (tryCompare (.ref x) "__ne__" b) (fun r s' => ∃ v, r = some v ∧ Q v s') E s := by
    unfold tryCompare
    refine wpAny_bind ?_
    simp only [callSpecialIfBound?, bindSpecialIfBound?]
    refine wpAny_holding (wpAny_bind (wpAny_bind (wpAny_bind (I.type.here ((looks_findIn X hne).here ?_)))))
    simp only [PySem.F.cmp_object.ne.bind]
    refine wpAny_bind (wpAny_askSetting (wpAny_ite ?_))
    have fin : wpAny (model prog w) A (PySem.call (.builtin "object.__ne__") ([.ref x] ++ [b]) >>= fun v => pure (some v)) (fun r s' => ∃ k, r = some (.bool k) ∧ Q (.bool k) s') E s :=
      wpAny_bind (wpAny_mono call (fun v s' ⟨k, e, hq⟩ => wpAny_pure ⟨k, by rw [e], hq⟩) fun _ _ h' => h')
    split
    · refine wpAny_bind (wpAny_pure (wpAny_pure (wpAny_mono fin (fun r s' ⟨k, e, hq⟩ => ?_) fun _ _ h' => h')))
      subst e
      exact wpAny_pure ⟨_, rfl, hq⟩
    · refine wpAny_tryCatch (wpAny_bind (wpAny_pure (wpAny_pure (wpAny_mono fin (fun r s' ⟨k, e, hq⟩ => ?_) fun _ _ h' => h'))))
      subst e
      exact wpAny_pure ⟨_, rfl, hq⟩
  unfold richCompare
  simp only [oneThing_ref]
  refine wpAny_holding (wpAny_bind (wpAny_cRoomFor hu0 ?_))
  refine wpAny_bind (I.type.here (wpAny_bind (hb.here ?_)))
  split
  · rename_i q
    have e : subIn K tb (.ref C) = some false := by
      rcases Bool.or_eq_true_iff.mp hn with e | e
      · rw [beq_iff_eq.mp e] at q; simp at q
      · exact beq_iff_eq.mp e
    refine wpAny_bind ((looks_subIn X e).here ?_)
    simp only [Bool.false_eq_true, if_false]
    refine wpAny_bind (wpAny_mono one (fun r s' z => ?_) fun _ _ e => e)
    obtain ⟨v, rfl, hq⟩ := z
    exact wpAny_pure hq
  · refine wpAny_bind (wpAny_pure ?_)
    simp only [Bool.false_eq_true, if_false]
    refine wpAny_bind (wpAny_mono one (fun r s' z => ?_) fun _ _ e => e)
    obtain ⟨v, rfl, hq⟩ := z
    exact wpAny_pure hq
open PySem.W in
/-- x op b, b an object of a built-in class -/
theorem bin_own {T nm : String} {op : Operator} {fo ro rc : Option Value} {Q : Value → Shared → Prop} (F : Fr h₀ L s.heap m) (X₀ : K.In h₀) (I : InstAt s.heap x ox C od) (hb : Looks (model prog w) s.heap (typeOf b) (.type T)) (hc : selfFirst K C = true)
    (hs : findIn K (.ref C) (PySem.dunder op.info.2) = some (some (.ref f))) (hf : isFn K (.ref f) = true) (hr : findIn K (.ref C) (dunderR op.info.2) = some rc) (hp : rc = none ∨ ∃ g : Addr, rc = some (.ref g))
    (h1 : findIn K (.type T) (PySem.dunder op.info.2) = some fo) (h2 : findIn K (.type T) (dunderR op.info.2) = some ro) (hsub : subIn K (.type T) (.ref C) = some false)
    (h : wpAny (model prog w) A (call (.ref f) [.ref x, b]) (PySem.W.CmpBack Q) E s) : wpAny (model prog w) A (binaryOp op (.ref x) b) Q E s := by
  have X := X₀.keeps F.keep
  obtain ⟨cd, rest, hcd, hm⟩ := ksp_first hc
  rcases hi : op.info with ⟨sym, nm'⟩
  rw [hi] at hs hr h1 h2
  dsimp only at hs hr h1 h2
  have one := ksp_try X I hs hf h
  obtain ⟨hh, g, d, tt, os⟩ := s
  have L1 : Looks (model prog w) hh (typeOf (.ref x)) (.ref C) := I.type
  have L2 : Looks (model prog w) hh (typeOf b) (.type T) := hb
  have L3 : Looks (model prog w) hh (fillsNumberSlot (.ref C) nm') true := fills_K X hcd hm hs
  have L4 : Looks (model prog w) hh (fillsNumberSlot (.type T) nm') ((fo.isSome && !isSeqSlot fo) || (ro.isSome && !isSeqSlot ro)) := ksp_fillsT X h1 h2
  have L5 : Looks (model prog w) hh (isSubtype (.type T) (.ref C)) false := looks_subIn X hsub
  have L6 : Looks (model prog w) hh (numberSlotInPython (.ref C) nm') true := ksp_inPy X hs hr hp
  have L7 : Looks (model prog w) hh (numberSlotInPython (.type T) nm') false := Looks.of_pure rfl
  have L8 : Looks (model prog w) hh (typeLookup (.type T) (dunderR nm')) ro := looks_findIn X h2
  generalize ((fo.isSome && !isSeqSlot fo) || (ro.isSome && !isSeqSlot ro)) = right at L4
  have hne : (Value.ref C == Value.type T) = false := Bool.eq_false_iff.mpr fun q => by cases beq_iff_eq.mp q
  simp only [binaryOp, hi]
  refine wpAny_holding (wpAny_bind ?_)
  unfold binaryOp1
  refine wpAny_bind (L1.at (wpAny_bind (L2.at (wpAny_bind (L3.at ?_)))))
  simp only [hne, Bool.false_eq_true, if_false]
  cases right <;>
  · ksp_lk
    refine wpAny_mono one (fun r s' hr' => ?_) fun _ _ e => e
    obtain ⟨v, rfl, hq⟩ := hr'
    ksp_lk
    exact hq
end

section
variable {X : Cx} {W : WX} {K : PySem.W.Frag} {ρ ρ' : List Addr} {A A' : AH} {H H' : Hp} {σ : St} {σD : EnvD} {fa fb : BE} {a b : Expr} {pos : Pos}
/-- comparisons, judged by their operands -/
theorem c_op {op : CmpOp} {g : D → D → M D} {r : R2} (hg : R2D X.K W g r) (ho : OpR X (compareOp op) r) (ha : PE X a (tE X.K W fa)) (hb : PE X b (tE X.K W fb)) : PC X op a b (tE X.K W (bOp g fa fb)) :=
  ⟨fun pins s σ H Q I h => thn (ha.run pins s σ H _ I (rOp hg h)) fun v s1 ⟨x, H1, I1, rx, q1⟩ => thn (hb.run pins s1 σ H1 _ I1 q1) fun u s2 ⟨y, H2, I2, ry, q2⟩ => ho pins s2 σ H2 x y v u Q I2 rx ry q2⟩
theorem c_alt {op : CmpOp} {f g : D → D → M D} (h1 : PC X op a b (tE X.K W (bOp f fa fb))) (h2 : PC X op a b (tE X.K W (bOp g fa fb))) : PC X op a b (tE X.K W (bOp (oAlt f g) fa fb)) :=
  ⟨fun pins s σ H Q I h => by
    rw [← bOp_alt] at h
    exact (bAlt_or h).elim (fun h => h1.run pins s σ H Q I h) fun h => h2.run pins s σ H Q I h⟩
theorem e_pc {op : CmpOp} {f : BE} (h : PC X op a b (tE X.K W f)) (hm : behindInMarks op b = false) : PE X (.Compare a [op] [b] pos) (tE X.K W f) := pe_cmp h hm
theorem t_pc {op : CmpOp} {f : BE} (h : PC X op a b (tE X.K W f)) (hm : behindInMarks op b = false) : PT X (.Compare a [op] [b] pos) (tT X.K W (bTest f)) := by
  refine (pt_cmp h hm).imp fun σ H Q h => ?_
  exact rTest h
/-- both operands, then what is left -/
theorem rBin {g : D → D → M D} {Q : VK} (h : tE K W (bOp g fa fb) σ H Q) : tE K W fa σ H fun v H1 => tE K W fb σ H1 fun u H2 => ∃ ρ A dx dy, Rep K ρ A H2 ∧ RelD K ρ A H2 dx v ∧ RelD K ρ A H2 dy u ∧ OkE K W (RelD K) (g dx dy A) ρ A σ H2 Q := by
  refine tG.mono (tG.bind h) fun v H1 ⟨ρ1, A1, σD, x, r1, e1, rx, o1⟩ => ?_
  exact ⟨ρ1, A1, σD, r1, e1, (OkE.bind (R := RelD K) o1).mono fun u H2 ⟨ρ2, A2, y, s2, ry, o2⟩ => ⟨ρ2, A2, x, y, s2.rep, rx.step r1 s2, ry, o2⟩⟩
/-- both are instances of the class at C -/
def oOwn (C : Addr) (F : BF) : D → D → M D := fun x y A => match insOf x A, insOf y A with
  | some (C1, _), some (C2, _) => if C1 = C ∧ C2 = C then F [x, y] A else none
  | _, _ => none
/-- what the text must have for C's own operator -/
structure Dn (K : PySem.W.Frag) (C : Addr) (m : Str) (f : Addr) : Prop where
  at_ : PySem.W.findIn K (.ref C) m = some (some (.ref f))
  fn : PySem.W.isFn K (.ref f) = true
theorem noNI {z : V} : ¬ RelV z .notImplemented := fun h => by
  cases z <;> first | (cases h; done) | (obtain ⟨_, h⟩ := h; cases h; done)
theorem back_of {pins : List (Addr × Obj)} {Q : VK} {v : Value} {s' : Shared} (h : EP X pins σ Q v s') : PySem.W.CmpBack (EP X pins σ Q) v s' := by
  obtain ⟨z, H', I', rz, q⟩ := h
  cases v <;> first | exact (noNI rz).elim | exact ⟨z, H', I', rz, q⟩
theorem inst_at {pins : List (Addr × Obj)} {s : Shared} {p C dx : Addr} {vs : List (Str × V)} (I : Inv X pins σ H s) (h : H p = some (.ins C dx vs)) : ∃ ox od, PySem.W.InstAt s.heap p ox C od := by
  obtain ⟨mA, J, _⟩ := ins_get I.hok h
  obtain ⟨od, J, _⟩ := J.look
  exact ⟨_, _, J⟩
theorem oOwn_get {C : Addr} {F : BF} {dx dy : D} {v u : V} {Q : VK} (r : Rep K ρ A H) (rx : RelD K ρ A H dx v) (ry : RelD K ρ A H dy u) (o : OkE K W (RelD K) (oOwn C F dx dy A) ρ A σ H Q) :
    ∃ p q d1 d2 v1 v2, v = .ref p ∧ u = .ref q ∧ H p = some (.ins C d1 v1) ∧ H q = some (.ins C d2 v2) ∧ OkE K W (RelD K) (F [dx, dy] A) ρ A σ H Q := by
  unfold oOwn at o
  cases h1 : insOf dx A with
  | none => simp only [h1] at o; exact o.elim
  | some z1 =>
    obtain ⟨C1, f1⟩ := z1
    cases h2 : insOf dy A with
    | none => simp only [h1, h2] at o; exact o.elim
    | some z2 =>
      obtain ⟨C2, f2⟩ := z2
      simp only [h1, h2] at o
      by_cases hc : C1 = C ∧ C2 = C
      · rw [if_pos hc] at o
        obtain ⟨rfl, rfl⟩ := hc
        obtain ⟨p, d1, v1, e1, e2, _⟩ := insOf_rel r rx h1
        obtain ⟨q, d2, v2, e3, e4, _⟩ := insOf_rel r ry h2
        exact ⟨p, q, d1, d2, v1, v2, e1, e3, e2, e4, o⟩
      · rw [if_neg hc] at o; exact o.elim
theorem spR_two {F : BF} {dx dy : D} {v u : V} {Q : VK} (r : Rep K ρ A H) (rx : RelD K ρ A H dx v) (ry : RelD K ρ A H dy u) (o : OkE K W (RelD K) (F [dx, dy] A) ρ A σ H Q) : spR K F [v, u] H Q (WE W σ) :=
  ⟨ρ, A, [dx, dy], r, ⟨v, [u], rfl, rx, u, [], rfl, ry, rfl⟩, o.wish fun _ _ _ h => h⟩
theorem two_vals (p q : Addr) : Vals [V.ref p, V.ref q] [Value.ref p, Value.ref q] := .cons rfl (.cons rfl .nil)
theorem notFirst_same {C : Addr} : PySem.W.notFirst K C (.ref C) = true := by simp [PySem.W.notFirst]
/-- == by the own __eq__, <, .. by the own ones -/
theorem c_own {op : CmpOp} {C f : Addr} {k : Nat} {F : BF} (hop : ∀ v u, compareOp op v u = richCompare op v u) (hn : Dn X.K C (cmpInfo op).2.1 f) (G : FnR X.prog X.w X.K X.mg X.base (L2.CX X.prog X.w) k f (spR X.K F)) (tk : Takes X W) (hr : Room k X.A) (hu : X.A.units < cLine)
    (ha : PE X a (tE X.K W fa)) (hb : PE X b (tE X.K W fb)) : PC X op a b (tE X.K W (bOp (oOwn C F) fa fb)) :=
  ⟨fun pins s σ H Q I h => thn (ha.run pins s σ H _ I (rBin h)) fun v s1 ⟨x, H1, I1, rx, q1⟩ => thn (hb.run pins s1 σ H1 _ I1 q1) fun u s2 ⟨y, H2, I2, ry, ρ, A, dx, dy, r, rdx, rdy, o⟩ => by
    obtain ⟨p, q, d1, d2, v1, v2, rfl, rfl, e1, e2, o⟩ := oOwn_get r rdx rdy o
    have sp := spR_two r rdx rdy o
    obtain rfl : v = Value.ref p := rx
    obtain rfl : u = Value.ref q := ry
    obtain ⟨_, _, J⟩ := inst_at I2 e1
    obtain ⟨_, _, J2⟩ := inst_at I2 e2
    obtain ⟨m, hF⟩ := I2.fr
    rw [hop]
    exact PySem.W.cmp_K hu hF I2.ok.mod.kin J J2.type notFirst_same hn.at_ hn.fn (wpAny_mono (run_FA G hr I2.env0 (passAt tk σ) I2 (two_vals p q) sp) (fun _ _ z => back_of z) fun _ _ z => z)⟩
/-- != by the own __eq__ -/
def oOwnNe (C : Addr) (F : BF) : D → D → M D := fun x y A => match oOwn C F x y A with
  | some (.val (.p (.bl k)) A') => some (.val (.p (.bl (!k))) A')
  | _ => none
theorem c_ownNe {C f : Addr} {k : Nat} {F : BF} (hn : Dn X.K C "__eq__" f) (hne : PySem.W.findIn X.K (.ref C) "__ne__" = some (some (.builtin "object.__ne__"))) (hmr : PySem.W.mroIn X.K C (.type "object") = some true)
    (G : FnR X.prog X.w X.K X.mg X.base (L2.CX X.prog X.w) k f (spR X.K F)) (tk : Takes X W) (hr : Room (k + 1) X.A) (hu : X.A.units + 1 < cLine)
    (ha : PE X a (tE X.K W fa)) (hb : PE X b (tE X.K W fb)) : PC X .NotEq a b (tE X.K W (bOp (oOwnNe C F) fa fb)) :=
  ⟨fun pins s σ H Q I h => thn (ha.run pins s σ H _ I (rBin h)) fun v s1 ⟨x, H1, I1, rx, q1⟩ => thn (hb.run pins s1 σ H1 _ I1 q1) fun u s2 ⟨y, H2, I2, ry, ρ, A, dx, dy, r, rdx, rdy, o⟩ => by
    have o' : OkE X.K W (RelD X.K) (oOwn C F dx dy A) ρ A σ H2 fun z H' => ∃ k, z = .bl k ∧ Q (.bl (!k)) H' := by
      unfold oOwnNe at o
      cases q : oOwn C F dx dy A with
      | none => rw [q] at o; exact o.elim
      | some z =>
        rw [q] at o
        match z, o with
        | .val (.p (.bl k)) A', o => exact fun ρ' H' b s rb => ⟨k, by simpa only [RelD, RelP] using rb, o ρ' H' _ s (by simp only [RelD, RelP])⟩
        | .val (.p .non) _, o => exact o.elim
        | .val (.p (.int _)) _, o => exact o.elim
        | .val (.p (.str _)) _, o => exact o.elim
        | .val (.p (.tup _)) _, o => exact o.elim
        | .val (.p (.ktup _)) _, o => exact o.elim
        | .val (.p (.lst _)) _, o => exact o.elim
        | .val (.p (.klst _)) _, o => exact o.elim
        | .val (.p (.dic _ _)) _, o => exact o.elim
        | .val (.p (.obj _ _)) _, o => exact o.elim
        | .val (.p (.rf _)) _, o => exact o.elim
        | .val (.p (.ty _)) _, o => exact o.elim
        | .val (.ref _) _, o => exact o.elim
        | .exc _ _, o => exact o.elim
    obtain ⟨p, q, d1, d2, v1, v2, rfl, rfl, e1, e2, o⟩ := oOwn_get r rdx rdy o'
    have sp := spR_two r rdx rdy o
    obtain rfl : v = Value.ref p := rx
    obtain rfl : u = Value.ref q := ry
    obtain ⟨_, _, J⟩ := inst_at I2 e1
    obtain ⟨_, _, J2⟩ := inst_at I2 e2
    obtain ⟨m, hF⟩ := I2.fr
    show wpAny _ _ (richCompare .NotEq _ _) _ _ _
    refine ne_own hu hF I2.ok.mod.kin J J2.type notFirst_same hne hmr hn.at_ hn.fn (wpAny_mono (run_FA G hr.in1 I2.env0.in1 (passAt tk σ) I2 (two_vals p q) sp) (fun z s' hz => ?_) fun _ _ z => z)
    obtain ⟨z', H', I', rz, k, rfl, hq⟩ := hz
    exact ⟨k, rz, .bl (!k), H', I', rfl, hq⟩⟩
/-- a op b by a's own class, b a tuple -/
def oOwnT (C : Addr) (F : BF) : D → D → M D := fun x y A => match insOf x A, y with
  | some (C1, _), .p (.tup _) => if C1 = C then F [x, y] A else none
  | _, _ => none
structure DnT (K : PySem.W.Frag) (C : Addr) (op : Operator) (f : Addr) : Prop where
  dn : Dn K C (PySem.dunder op.info.2) f
  sf : PySem.W.selfFirst K C = true
  hr : ∃ rc, PySem.W.findIn K (.ref C) (dunderR op.info.2) = some rc ∧ (rc = none ∨ ∃ g : Addr, rc = some (.ref g))
  h1 : ∃ fo, PySem.W.findIn K (.type "tuple") (PySem.dunder op.info.2) = some fo
  h2 : ∃ ro, PySem.W.findIn K (.type "tuple") (dunderR op.info.2) = some ro
  sub : PySem.W.subIn K (.type "tuple") (.ref C) = some false
theorem e_ownT {op : Operator} {C f : Addr} {k : Nat} {F : BF} (hn : DnT X.K C op f) (G : FnR X.prog X.w X.K X.mg X.base (L2.CX X.prog X.w) k f (spR X.K F)) (tk : Takes X W) (hr : Room k X.A) (ha : PE X a (tE X.K W fa)) (hb : PE X b (tE X.K W fb)) :
    PE X (.BinOp a op b pos) (tE X.K W (bOp (oOwnT C F) fa fb)) := by
  refine ⟨fun pins s σ H Q I h => ?_⟩
  refine wpAny_BinOp (thn (ha.run pins s σ H _ I (rBin h)) fun v s1 ⟨x, H1, I1, rx, q1⟩ => thn (hb.run pins s1 σ H1 _ I1 q1) fun u s2 ⟨y, H2, I2, ry, ρ, A, dx, dy, r, rdx, rdy, o⟩ => ?_)
  unfold oOwnT at o
  split at o
  · rename_i C1 fs ys h1
    split at o
    · rename_i hc
      subst hc
      obtain ⟨p, d1, v1, rfl, e1, _⟩ := insOf_rel r rdx h1
      have sp := spR_two r rdx rdy o
      simp only [RelD, RelP] at rdy
      obtain ⟨q, us, rfl, ht, _⟩ := rdy
      obtain rfl : v = Value.ref p := rx
      obtain rfl : u = Value.ref q := ry
      obtain ⟨_, _, J⟩ := inst_at I2 e1
      obtain ⟨m, hF⟩ := I2.fr
      obtain ⟨its, rv, pt, _⟩ := I2.tuple (SqT.of ht)
      have hty : PySem.W.Looks (model X.prog X.w) s2.heap (typeOf (.ref q)) (.type "tuple") := by
        obtain ⟨ob, ho, hcl, _⟩ := pt
        intro A' Q' E' s' k' hq'
        exact wpAny_typeOf (s := s') ⟨ob, k' _ _ ho, hcl⟩ hq'
      obtain ⟨rc, r1, r2⟩ := hn.hr
      obtain ⟨fo, f1⟩ := hn.h1
      obtain ⟨ro, f2⟩ := hn.h2
      exact bin_own (nm := "") hF I2.ok.mod.kin J hty hn.sf hn.dn.at_ hn.dn.fn r1 r2 f1 f2 hn.sub (wpAny_mono (run_FA G hr I2.env0 (passAt tk σ) I2 (two_vals p q) sp) (fun _ _ z => back_of z) fun _ _ z => z)
    · exact o.elim
  · exact o.elim
/-- a op b, both of the class at C -/
theorem e_own2 {op : Operator} {C f : Addr} {k : Nat} {F : BF} (hn : Dn X.K C (PySem.dunder op.info.2) f) (sf : PySem.W.selfFirst X.K C = true) (G : FnR X.prog X.w X.K X.mg X.base (L2.CX X.prog X.w) k f (spR X.K F)) (tk : Takes X W) (hr : Room k X.A)
    (ha : PE X a (tE X.K W fa)) (hb : PE X b (tE X.K W fb)) : PE X (.BinOp a op b pos) (tE X.K W (bOp (oOwn C F) fa fb)) := by
  refine ⟨fun pins s σ H Q I h => ?_⟩
  refine wpAny_BinOp (thn (ha.run pins s σ H _ I (rBin h)) fun v s1 ⟨x, H1, I1, rx, q1⟩ => thn (hb.run pins s1 σ H1 _ I1 q1) fun u s2 ⟨y, H2, I2, ry, ρ, A, dx, dy, r, rdx, rdy, o⟩ => ?_)
  obtain ⟨p, q, d1, d2, v1, v2, rfl, rfl, e1, e2, o⟩ := oOwn_get r rdx rdy o
  have sp := spR_two r rdx rdy o
  obtain rfl : v = Value.ref p := rx
  obtain rfl : u = Value.ref q := ry
  obtain ⟨_, _, J⟩ := inst_at I2 e1
  obtain ⟨_, _, J2⟩ := inst_at I2 e2
  obtain ⟨m, hF⟩ := I2.fr
  exact PySem.W.binop_K hF I2.ok.mod.kin J J2.type sf hn.at_ hn.fn (wpAny_mono (run_FA G hr I2.env0 (passAt tk σ) I2 (two_vals p q) sp) (fun _ _ z => back_of z) fun _ _ z => z)
end
end PF

/-! text PF15 -/
set_option Elab.async false
set_option linter.all false
set_option maxRecDepth 100000
set_option maxHeartbeats 1000000
/-! PF15: len, in, properties, class constants, static and class methods. -/
namespace PF
open PySem L2 PySem.Spec PyProof.Rows
section
variable {X : Cx} {W : WX} {K : PySem.W.Frag} {ρ ρ' : List Addr} {A A' : AH} {H H' : Hp} {σ : St} {σD : EnvD} {fa fb : BE} {a b : Expr} {pos : Pos}
/-- nothing may be raised -/
def X0 : XK := fun _ _ _ => False
theorem pass0 {Y : Cx} {σ : St} : PassesAt (L2.CX X.prog X.w) Y σ X0 := by
  rintro pins H s e s' I ⟨a, B, H', cls, d, ea, fl, hok, ub, na, os, ag, he⟩
  exact he.elim
theorem passes0 {Y : Cx} {P : Program} {w : World} : Passes (L2.CX P w) Y X0 := by
  rintro pins σ H s e s' I ⟨a, B, H', cls, d, ea, fl, hok, ub, na, os, ag, he⟩
  exact he.elim
theorem one_val (p : Addr) : Vals [V.ref p] [Value.ref p] := .cons rfl .nil
theorem ref_val (p : Addr) {x : V} {v : Value} (r : RelV x v) : Vals [V.ref p, x] [Value.ref p, v] := .cons rfl (.cons r .nil)
/-- a value for sure -/
def valF (r : Option (Res D)) : Option (Res D) := match r with
  | some (.val d A) => some (.val d A)
  | _ => none
theorem valF_ok {r : Option (Res D)} {W' : WX} {Q : VK} (o : OkE K W (RelD K) (valF r) ρ A σ H Q) : OkE K W' (RelD K) r ρ A σ H Q := by
  match r, o with
  | some (.val d A), o => exact o
  | some (.exc _ _), o => exact o.elim
  | none, o => exact o.elim

/-! ### len of an instance -/
def oLenO (C : Addr) (F : BF) : BL := fun ds A => match ds with
  | [d] => match insOf d A with
    | some (C1, _) => if C1 = C then (match F [d] A with
        | some (.val (.p (.int i)) A') => if 0 ≤ i ∧ i < 2 ^ 62 then some (.val (.p (.int i)) A') else none
        | _ => none) else none
    | none => none
  | _ => none
def rLenO (K : PySem.W.Frag) (C : Addr) (F : BF) : List V → Hp → VK → Prop := fun vs H Q => ∃ p dx fs, vs = [.ref p] ∧ H p = some (.ins C dx fs) ∧ spR K F [.ref p] H (fun v H' => ∃ i, v = .int i ∧ 0 ≤ i ∧ i < 2 ^ 62 ∧ Q v H') X0
theorem l_lenO {C : Addr} {F : BF} : RLD K W (oLenO C F) (rLenO K C F) := by
  intro ρ A σ H ds vs Q r rd o
  unfold oLenO at o
  split at o
  · rename_i d
    obtain ⟨v, w, rfl, rv, e3⟩ := rd
    cases e3
    split at o
    · rename_i C1 fs hi
      split at o
      · rename_i hc
        subst hc
        obtain ⟨p, dx, us, rfl, e1, _⟩ := insOf_rel r rv hi
        refine ⟨p, dx, us, rfl, e1, ρ, A, [d], r, ⟨.ref p, [], rfl, rv, rfl⟩, ?_⟩
        split at o
        · rename_i i A' hF
          split at o
          · rename_i hi2
            show OkE K _ (RelD K) (F [d] A) ρ A [] H _
            rw [hF]
            exact fun ρ' H' b s rb => ⟨i, by simpa only [RelD, RelP] using rb, hi2.1, hi2.2, o ρ' H' b s rb⟩
          · exact o.elim
        · exact o.elim
      · exact o.elim
    · exact o.elim
  · exact o.elim
theorem call_lenO {C f : Addr} {k : Nat} {F : BF} (hn : Dn X.K C "__len__" f) (G : FnR X.prog X.w X.K X.mg X.base (L2.CX X.prog X.w) k f (spR X.K F)) (hr : Room (k + 1) X.A) : CallR X (.builtin "len") (rLenO X.K C F) := by
  intro pins s σ H vs us Q I r h
  obtain ⟨p, dx, fs, rfl, e1, sp⟩ := h
  obtain ⟨u, rfl, ru⟩ := vals1 r
  obtain rfl : u = Value.ref p := ru
  obtain ⟨_, _, J⟩ := inst_at I e1
  obtain ⟨m, hF⟩ := I.fr
  refine PySem.W.len_K hF I.ok.mod.kin J hn.at_ hn.fn (wpAny_mono (run_FA G hr.in1 I.env0.in1 pass0 I (one_val p) sp) (fun z s' hz => ?_) fun _ _ z => z)
  obtain ⟨z', H', I', rz, i, rfl, h0, h1, hq⟩ := hz
  obtain ⟨t, rfl⟩ := rz
  exact ⟨⟨h0, by omega⟩, ⟨.int i, H', I'.tok _, ⟨_, rfl⟩, hq⟩⟩
/-! ### x in an instance -/
def oInO (neg : Bool) (C : Addr) (F : BF) : D → D → M D := fun x y A => match insOf y A with
  | some (C1, _) => if C1 = C then (match F [y, x] A with
      | some (.val (.p (.bl k)) A') => some (.val (.p (.bl (if neg then !k else k))) A')
      | _ => none) else none
  | none => none
def rInO (K : PySem.W.Frag) (neg : Bool) (C : Addr) (F : BF) : R2 := fun x y H Q => ∃ p dx fs, y = .ref p ∧ H p = some (.ins C dx fs) ∧ spR K F [.ref p, x] H (fun v H' => ∃ k, v = .bl k ∧ Q (.bl (if neg then !k else k)) H') X0
theorem r2_inO {neg : Bool} {C : Addr} {F : BF} : R2D K W (oInO neg C F) (rInO K neg C F) := by
  intro ρ A σ H x y v u Q r rx ry o
  unfold oInO at o
  split at o
  · rename_i C1 fs hi
    split at o
    · rename_i hc
      subst hc
      obtain ⟨p, dx, us, rfl, e1, _⟩ := insOf_rel r ry hi
      refine ⟨p, dx, us, rfl, e1, ρ, A, [y, x], r, ⟨.ref p, [v], rfl, ry, v, [], rfl, rx, rfl⟩, ?_⟩
      split at o
      · rename_i k A' hF
        show OkE K _ (RelD K) (F [y, x] A) ρ A [] H _
        rw [hF]
        exact fun ρ' H' b s rb => ⟨k, by simpa only [RelD, RelP] using rb, o ρ' H' _ s (by simp only [RelD, RelP])⟩
      · exact o.elim
    · exact o.elim
  · exact o.elim
theorem op_inO {C f : Addr} {k : Nat} {F : BF} (hn : Dn X.K C "__contains__" f) (G : FnR X.prog X.w X.K X.mg X.base (L2.CX X.prog X.w) k f (spR X.K F)) (hr : Room k X.A) : OpR X (compareOp .In) (rInO X.K false C F) := by
  intro pins s σ H x y v u Q I rx ry h
  obtain ⟨p, dx, fs, rfl, e1, sp⟩ := h
  obtain rfl : u = Value.ref p := ry
  obtain ⟨_, _, J⟩ := inst_at I e1
  obtain ⟨m, hF⟩ := I.fr
  refine PySem.W.in_K hF I.ok.mod.kin J hn.at_ hn.fn (wpAny_mono (run_FA G hr I.env0 pass0 I (ref_val p rx) sp) (fun z s' hz => ?_) fun _ _ z => z)
  obtain ⟨z', H', I', rz, k, rfl, hq⟩ := hz
  obtain rfl : z = Value.bool k := rz
  exact wpAny_pure ⟨.bl k, H', I', rfl, hq⟩
theorem op_notInO {C f : Addr} {k : Nat} {F : BF} (hn : Dn X.K C "__contains__" f) (G : FnR X.prog X.w X.K X.mg X.base (L2.CX X.prog X.w) k f (spR X.K F)) (hr : Room k X.A) : OpR X (compareOp .NotIn) (rInO X.K true C F) := by
  intro pins s σ H x y v u Q I rx ry h
  obtain ⟨p, dx, fs, rfl, e1, sp⟩ := h
  obtain rfl : u = Value.ref p := ry
  obtain ⟨_, _, J⟩ := inst_at I e1
  obtain ⟨m, hF⟩ := I.fr
  refine PySem.W.notIn_K hF I.ok.mod.kin J hn.at_ hn.fn (wpAny_mono (run_FA G hr I.env0 pass0 I (ref_val p rx) sp) (fun z s' hz => ?_) fun _ _ z => z)
  obtain ⟨z', H', I', rz, k, rfl, hq⟩ := hz
  obtain rfl : z = Value.bool k := rz
  exact wpAny_pure ⟨.bl (!k), H', I', rfl, hq⟩
/-! ### a property -/
def bProp (C : Addr) (n : Nat) (F : BF) (fo : BE) : BE := fun σ => (fo σ).bind fun d A => match insOf d A with
  | some (C1, _) => if C1 = C ∧ n = 1 then valF (F [d] A) else none
  | none => none
theorem e_prop {C p g : Addr} {k n : Nat} {F : BF} {fd : FuncData} {ps : List Str} {e : Expr} {f : Str} {fo : BE} (he : PE X e (tE X.K W fo)) (c : Cls X.K C) (hp : PropOf X.K C f p g) (G : FnOk X.prog X.w X.K X.mg X.base (L2.CX X.prog X.w) k g fd ps (spF X.K n F)) (hr : Room (k + 1) X.A) (hb : Binds X.K fd ps [])
    (hab : attributeBase e f X.env (eval e X.env) = eval e X.env := by rfl) : PE X (.Attribute e f pos) (tE X.K W (bProp C n F fo)) := by
  refine (pe_prop (E := X0) (dvs := []) (ds := []) he c hp G hr hb .nil passes0 hab).imp fun σ H Q h => ?_
  refine tG.mono (tG.bind (f := fo) h) fun v H1 ⟨ρ1, A1, σD, d, r1, e1, rd, o⟩ => ?_
  split at o
  · rename_i C1 fs hi
    split at o
    · rename_i hc
      obtain ⟨rfl, rfl⟩ := hc
      obtain ⟨q, dx, us, rfl, e2, _⟩ := insOf_rel r1 rd hi
      exact ⟨q, dx, us, rfl, e2, rfl, ρ1, A1, [d], r1, ⟨.ref q, [], rfl, rd, rfl⟩, (valF_ok (W' := fun c d _ H => X0 c d H) o).wish fun _ _ _ h => h⟩
    · exact o.elim
  · exact o.elim
/-! ### constants of a class -/
structure CV (K : PySem.W.Frag) (C : Addr) (f : Str) (q : P) : Prop where
  ok : ∃ mc v u, ClX.CRead K C mc ∧ ClX.CVal K C mc f v u ∧ ∀ L H, RelP K L H q v
def bCV (C : Addr) (q : P) (fo : BE) : BE := fun σ => (fo σ).bind fun d => match d with
  | .p (.rf C1) => if C1 = C then M.ret (.p q) else M.stuck
  | _ => M.stuck
theorem e_cv {C : Addr} {q : P} {e : Expr} {f : Str} {fo : BE} (hc : CV X.K C f q) (he : PE X e (tE X.K W fo)) (hb : attributeBase e f X.env (eval e X.env) = eval e X.env := by rfl) : PE X (.Attribute e f pos) (tE X.K W (bCV C q fo)) := by
  obtain ⟨mc, v, u, h1, h2, h3⟩ := hc.ok
  refine (ClX.pe_cval he hb).imp fun σ H Q h => ?_
  refine tG.mono (tG.bind (f := fo) h) fun w H1 ⟨ρ1, A1, σD, d, r1, e1, rd, o⟩ => ?_
  split at o
  · rename_i C1
    split at o
    · rename_i hc
      subst hc
      simp only [RelD, RelP] at rd
      subst rd
      exact ⟨C1, mc, v, u, rfl, h1, h2, OkE.ret r1 o (h3 _ _)⟩
    · exact o.elim
  · exact o.elim
/-! ### static and class methods, of the class itself -/
structure SMet (K : PySem.W.Frag) (C : Addr) (mc : Value) (m : Str) (p g : Addr) : Prop where
  at_ : PySem.W.findCls K (.ref C) mc m = some (.get (.builtin "staticmethod.__get__") (.ref p) .none (.ref C))
  rc : ∃ rest, PySem.W.recIn K p "staticmethod" = some (.ref g :: rest)
  kp : PySem.W.keepIn K (.ref g) = true
def bSM (C : Addr) (F : BF) (fo : BE) (fa : BA) : BE := fun σ => (fo σ).bind fun d => match d with
  | .p (.rf C1) => if C1 = C then (fa σ).bind fun ds A => F ds A else M.stuck
  | _ => M.stuck
def bCM (C : Addr) (F : BF) (fo : BE) (fa : BA) : BE := fun σ => (fo σ).bind fun d => match d with
  | .p (.rf C1) => if C1 = C then (fa σ).bind fun ds A => F (.p (.rf C) :: ds) A else M.stuck
  | _ => M.stuck
theorem rCls {C : Addr} {g : BE} {fo : BE} {Q : VK} (h : tE K W (fun σ => (fo σ).bind fun d => match d with
    | .p (.rf C1) => if C1 = C then g σ else M.stuck
    | _ => M.stuck) σ H Q) : tE K W fo σ H fun x H1 => x = .ref C ∧ tE K W g σ H1 Q := by
  refine tG.mono (tG.bind (f := fo) h) fun w H1 ⟨ρ1, A1, σD, d, r1, e1, rd, o⟩ => ?_
  split at o
  · rename_i C1
    split at o
    · rename_i hc
      subst hc
      simp only [RelD, RelP] at rd
      exact ⟨rd, ρ1, A1, σD, r1, e1, o⟩
    · exact o.elim
  · exact o.elim
theorem e_sm {C p g : Addr} {mc : Value} {k : Nat} {F : BF} {o e : Expr} {es : List Expr} {m : Str} {apos : Pos} {fo : BE} {fa : BA} {pl : Sem Bool} (he : PE X o (tE X.K W fo)) (rd : ClX.CRead X.K C mc) (c : SMet X.K C mc m p g) (G : FnR X.prog X.w X.K X.mg X.base (L2.CX X.prog X.w) k g (spR X.K F)) (tk : Takes X W) (hr : Room k X.A)
    (ha : PA X (e :: es) (tA X.K W fa)) (hst : starEach (e :: es) X.env = (false, eval e X.env) :: starEach es X.env := by rfl) (hpl : (backTo pos (starEach es X.env)).any (·.1) = false := by rfl)
    (ht : eval (.Call (.Attribute o m apos) (e :: es) [] pos) X.env = (do
      let ov ← eval o X.env
      standAt apos.atName
      let (f, first) ← holding [ov] (getMethod ov m pl)
      callWith pos f first (backTo pos (starEach (e :: es) X.env)) (backToKw pos (keywordEach [] X.env))) := by rfl) :
    PE X (.Call (.Attribute o m apos) (e :: es) [] pos) (tE X.K W (bSM C F fo fa)) := by
  refine ⟨fun pins s σ H Q I h => ?_⟩
  have h1 := rCls (g := fun σ => (fa σ).bind fun ds A => F ds A) h
  refine PySem.W.methodCall_KW (pl := pl) (thn (he.run pins s σ H _ I h1) fun u s1 ⟨x, H1, I1, rx, ex, q⟩ => ?_) ht
  subst ex
  obtain rfl : u = Value.ref C := rx
  obtain ⟨rest, hp⟩ := c.rc
  refine PySem.W.method_cls I1.kIn rd.ga (PySem.W.cls_bind I1.kIn rd.rd c.at_ (wpAny_call (PySem.W.sm_get (s := { s1 with toks := s1.toks + 1 }) I1.kIn hp (PySem.W.handed_on rfl ?_))))
  have I2 := I1.tok (s1.toks + 1)
  have h2 : tA X.K W fa σ H1 _ := tG.bind (f := fa) (R := RelDs X.K) q
  refine PySem.W.callWith_K (first := []) (h₀ := X.base) I2.ok.mod.kin c.kp (thn (ha.run pos pins _ σ H1 _ I2 h2) fun us s3 ⟨vs, H2, I3, rv, ρ2, A2, σ2, ds, r2, e2, rds, o⟩ => ⟨I3.kIn, ?_⟩) hst hpl
  exact run_FA G hr I3.env0 (passAt tk σ) I3 rv ⟨ρ2, A2, ds, r2, rds, o.wish fun _ _ _ h => h⟩
theorem e_cm {C p g : Addr} {mc : Value} {k : Nat} {F : BF} {o e : Expr} {es : List Expr} {m : Str} {apos : Pos} {fo : BE} {fa : BA} {pl : Sem Bool} (he : PE X o (tE X.K W fo)) (rd : ClX.CRead X.K C mc) (c : ClX.CMet X.K C mc m p g) (G : FnR X.prog X.w X.K X.mg X.base (L2.CX X.prog X.w) k g (spR X.K F)) (tk : Takes X W) (hr : Room k X.A)
    (ha : PA X (e :: es) (tA X.K W fa)) (hst : starEach (e :: es) X.env = (false, eval e X.env) :: starEach es X.env := by rfl) (hpl : (backTo pos (starEach es X.env)).any (·.1) = false := by rfl)
    (ht : eval (.Call (.Attribute o m apos) (e :: es) [] pos) X.env = (do
      let ov ← eval o X.env
      standAt apos.atName
      let (f, first) ← holding [ov] (getMethod ov m pl)
      callWith pos f first (backTo pos (starEach (e :: es) X.env)) (backToKw pos (keywordEach [] X.env))) := by rfl) :
    PE X (.Call (.Attribute o m apos) (e :: es) [] pos) (tE X.K W (bCM C F fo fa)) := by
  refine ⟨fun pins s σ H Q I h => ?_⟩
  have h1 := rCls (g := fun σ => (fa σ).bind fun ds A => F (.p (.rf C) :: ds) A) h
  refine PySem.W.methodCall_KW (pl := pl) (thn (he.run pins s σ H _ I h1) fun u s1 ⟨x, H1, I1, rx, ex, q⟩ => ?_) ht
  subst ex
  obtain rfl : u = Value.ref C := rx
  refine ClX.getmethcm_ok I1 rd c fun s2 I2 => ?_
  have h2 : tA X.K W fa σ H1 _ := tG.bind (f := fa) (R := RelDs X.K) q
  refine ClX.callwith_cm I2 (ClX.base_none I1 (Nat.le_refl _)) c.fi (thn (ha.run pos _ s2 σ H1 _ I2 h2) fun us s3 ⟨vs, H2, I3, rv, ρ2, A2, σ2, ds, r2, e2, rds, o⟩ => ⟨⟨ClX.pin_at I3, I3.kIn⟩, ?_⟩) hst hpl
  have z : wpAny (model X.prog X.w) X.A (call (.ref s1.heap.objs.size) us) (EP X ((s1.heap.objs.size, PySem.W.methodObj (.ref g) (.ref C)) :: pins) σ Q) X.xe s3 := by
    refine wpAny_call (PySem.W.method_call (ClX.pin_at I3) ?_)
    refine codeAny_mono (G X.A X.stack s3 H2 (.ref C :: us) (.ref C :: vs) Q (WE W σ) hr I3.env0 (.cons rfl rv) ⟨ρ2, A2, .p (.rf C) :: ds, r2, ⟨.ref C, vs, rfl, by simp only [RelD, RelP], rds⟩, o.wish fun _ _ _ h => h⟩) fun r s' hq => ?_
    cases r with
    | error e => exact passAt tk σ _ H2 s3 e s' I3 hq
    | ok fl =>
      cases fl with
      | ret u => exact I3.after hq
      | next => exact False.elim hq
      | brk => exact False.elim hq
      | cont => exact False.elim hq
  exact thn z fun _ _ y => ClX.unpinE y
end
end PF

/-! text PF16 -/
set_option Elab.async false
set_option linter.all false
set_option maxRecDepth 100000
set_option maxHeartbeats 1000000
/-! PF16: defs with defaults, what a whole def computes; chains of comparisons; words in short. -/
namespace PF
open PySem L2 PySem.Spec PyProof.Rows
/-- what the def with n parameters and m slots computes -/
def defF (n m : Nat) (b : BS) : BF := fun ds A => if ds.length = n then mkF m b ds A else none
theorem defF_len {n m : Nat} {b : BS} : ∀ ds A r, defF n m b ds A = some r → ds.length = n := fun ds A r h => by
  unfold defF at h
  split at h
  · assumption
  · cases h
section
variable {P : Program} {w : World} {K : PySem.W.Frag} {mg : Str → Option Value} {base : Heap}
abbrev Body (P : Program) (w : World) (K : PySem.W.Frag) (mg : Str → Option Value) (base : Heap) (N : List Str) (qual : Str) (scope : Scope) (f : Addr) (k : Nat) (body : List Stmt) (b : BS) : Prop :=
  ∀ (cdv : Value) (A : Around) (outer : List Env) (s : Shared) (H : Hp) (E : XK), Room k (A.deeper (envOfC qual scope s.heap.objs.size f cdv)) →
      Co (cxOf (L2.CX P w) P w K mg base N qual scope f cdv A outer s H E) (fun c d _ H => E c d H) →
      PSs (cxOf (L2.CX P w) P w K mg base N qual scope f cdv A outer s H E) body (tS K (fun c d _ H => E c d H) b)
theorem fnD_ok {x qual : Str} {params : Arguments} {body : List Stmt} {scope : Scope} {dvs : List V} {kws : List (Str × V)} {f : Addr} {fd : FuncData} {N ps : List Str} {k n m : Nat} {b : BS} (F : FunD K x qual params body scope dvs kws f fd) (S : FnScope N ps scope)
    (hn : ps.length = n) (hm : N.length = m) (hb : Body P w K mg base N qual scope f k body b) : FnOk P w K mg base (L2.CX P w) (k + 1) f fd ps (spF K n (defF n m b)) := by
  subst hn hm
  refine (funD_ok F (CX := L2.CX P w) S (sp := spF K ps.length (mkF N.length b)) (fun _ _ _ _ h => h.1) fun cdv A outer s H vs Q E hr h => ?_).imp fun _ _ _ _ q => spF_imp (fun ds A r e => ?_) q
  · exact ⟨_, hb cdv A outer s H E hr ⟨takes_of rfl rfl rfl rfl, passes_of rfl, rfl, S.nd, fun _ => rfl⟩, mkF_ok h⟩
  · unfold defF at e
    split at e
    · exact e
    · cases e
/-- def f(a, .., *v) -/
theorem fnS_ok {x qual : Str} {params : Arguments} {body : List Stmt} {scope : Scope} {kws : List (Str × V)} {f : Addr} {fd : FuncData} {N ps : List Str} {pv : Str} {k n m : Nat} {b : BS} (F : FunD K x qual params body scope [] kws f fd) (S : FnScope N (ps ++ [pv]) scope)
    (hbind : ∀ (kV doc pm : Value) (an : Option Addr) (cdv ct : Value) (us rest : List Value), us.length = ps.length → bindArgs (PySem.W.fnOf x qual params body scope .none kV doc pm an cdv ct) ⟨us ++ rest, []⟩ = (newTuple rest >>= fun t => pure (ps.zip us ++ [(pv, t)])))
    (hn : ps.length = n) (hm : N.length = m) (hb : Body P w K mg base N qual scope f k body b) : FnR P w K mg base (L2.CX P w) (k + 1) f (spR K (starF n (defF (n + 1) m b))) := by
  subst hn hm
  obtain ⟨oc, od, dV, kV, doc, pm, an, cdv, ct, osl, rfl, lk, hcd, hD, _⟩ := F.ex
  have e : dV = .none := by
    rcases hD with ⟨_, h⟩ | ⟨h, _⟩
    · exact h
    · exact absurd rfl h
  subst e
  refine (fn_star (CX := L2.CX P w) (sp := spF K (ps.length + 1) (defF (ps.length + 1) N.length b)) lk hcd S StX.cxUp (fun us rest h => hbind kV doc pm an cdv ct us rest h) fun A outer s H vs Q E hr h => ?_).imp fun vs H Q E h => spR_star h
  refine ⟨_, hb cdv A outer s H E hr ⟨takes_of rfl rfl rfl rfl, passes_of rfl, rfl, S.nd, fun _ => rfl⟩, mkF_ok (n := ps.length + 1) (spF_imp (fun ds A r e => ?_) h)⟩
  unfold defF at e
  split at e
  · exact e
  · cases e
end
section
variable {X : Cx} {W : WX} {K : PySem.W.Frag} {fa fb fc : BE} {a b c : Expr} {pos : Pos}
theorem e_chain {op op' : CmpOp} {q q' : Int → Int → Bool} (ho : OpR X (compareOp op) (rI0 fun i j => .bl (q i j))) (ho' : OpR X (compareOp op') (rI0 fun i j => .bl (q' i j))) (ha : PE X a (tE X.K W fa)) (hb : PE X b (tE X.K W fb)) (hc : PE X c (tE X.K W fc))
    (hm : lastMarks [op, op'] [b, c] = false := by with_unfolding_all rfl) : PE X (.Compare a [op, op'] [b, c] pos) (tE X.K W (bChain (o2b q) (o2b q') fa fb fc)) :=
  (pe_chain ho ho' ha hb hc hm).imp fun _ _ _ h => rChain rfl rfl h
theorem t_chain {op op' : CmpOp} {q q' : Int → Int → Bool} (ho : OpR X (compareOp op) (rI0 fun i j => .bl (q i j))) (ho' : OpR X (compareOp op') (rI0 fun i j => .bl (q' i j))) (ha : PE X a (tE X.K W fa)) (hb : PE X b (tE X.K W fb)) (hc : PE X c (tE X.K W fc))
    (hm : lastMarks [op, op'] [b, c] = false := by with_unfolding_all rfl) : PT X (.Compare a [op, op'] [b, c] pos) (tT X.K W (bTest (bChain (o2b q) (o2b q') fa fb fc))) := by
  refine (pt_chain ho ho' ha hb hc hm).imp fun σ H Q h => ?_
  have h1 := rTest h
  obtain ⟨ρ, A, σD, r0, e0, o⟩ := h1
  exact rChain rfl rfl ⟨ρ, A, σD, r0, e0, o⟩
/-- units -/
theorem un65 {k : Nat} {A : Around} (hr : Room k A) : A.units + 65 < cLine := by have := hr.un; omega
theorem un1 {k : Nat} {A : Around} (hr : Room k A) : A.units + 1 < cLine := by have := hr.un; omega
theorem un0 {k : Nat} {A : Around} (hr : Room k A) : A.units < cLine := by have := hr.un; omega
end
end PF

/-! text PF17 -/
set_option Elab.async false
set_option linter.all false
set_option maxRecDepth 100000
set_option maxHeartbeats 1000000
/-! PF17: words in short; more rules: is None, -x, xs[::-1], a list unpacked, stars, two stored at once. -/
namespace PF
open PySem L2 PySem.Spec PyProof.Rows
section
variable {X : Cx} {W : WX} {K : PySem.W.Frag} {ρ ρ' : List Addr} {A A' : AH} {H H' : Hp} {σ : St} {σD : EnvD} {fa fb : BE} {a b : Expr} {pos : Pos}
theorem e_V (i : Nat) {x : Str} (hN : X.N[i]? = some x := by rfl) (hv : Vis X.env.scope x := by first | exact .inl rfl | exact .inr (.inl rfl) | exact .inr (.inr rfl)) (hd : (x == ("__debug__" : Str)) = false := by decide) (hcd : (x == ("__classdict__" : Str)) = false := by decide) :
    PE X (.Name x pos) (tE X.K W (bVar i)) := e_var hN hv hd hcd
theorem g_N (i : Nat) {x : Str} (hN : X.N.Nodup) (hi : X.N[i]? = some x := by rfl) (hx : Loc X.env.scope x := by first | exact .inl rfl | exact .inr rfl) (hf : X.fn x = true ∨ X.env.scope.names.lookup x = some .local := by first | exact .inl rfl | exact .inr rfl) :
    PG X (.Name x pos) (tGt X.K [i] (gNm i)) := g_name hN hi hx hf
theorem s_S (i : Nat) {x : Str} {e : Expr} {f : BE} {pos' : Pos} (hN : X.N.Nodup) (he : PE X e (tE X.K W f)) (hi : X.N[i]? = some x := by rfl) (hx : Loc X.env.scope x := by first | exact .inl rfl | exact .inr rfl)
    (hf : X.fn x = true ∨ X.env.scope.names.lookup x = some .local := by first | exact .inl rfl | exact .inr rfl) (hs : swapsWith e (some (.Name x pos')) pos.line X.env = pure false := by rfl) :
    PS X (.Assign [.Name x pos'] e pos) (tS X.K W (sSet f i)) := s_set hN hi hx hf he hs
/-- module constants -/
theorem e_Gs {x y : Str} {t : Tok} (hg : Gl X x) (hm : X.mg x = some (.str y t)) (hd : (x == ("__debug__" : Str)) = false := by decide) : PE X (.Name x pos) (tE X.K W (bC (.str y))) :=
  e_glob (v := .str y) (fun _ _ => by simp only [RelP]) ⟨t, rfl⟩ hg hm hd
theorem e_Gi {x : Str} {i : Int} {t : Tok} (hg : Gl X x) (hm : X.mg x = some (.int i t)) (hd : (x == ("__debug__" : Str)) = false := by decide) : PE X (.Name x pos) (tE X.K W (bC (.int i))) :=
  e_glob (v := .int i) (fun _ _ => by simp only [RelP]) ⟨t, rfl⟩ hg hm hd
theorem e_altO {e : Expr} {f g : D → D → M D} (h1 : PE X e (tE X.K W (bOp f fa fb))) (h2 : PE X e (tE X.K W (bOp g fa fb))) : PE X e (tE X.K W (bOp (oAlt f g) fa fb)) := by
  have h := e_alt h1 h2
  rw [bOp_alt] at h
  exact h
/-- -x -/
def bNeg (f : BE) : BE := fun σ => (f σ).bind fun d => match intOf d with
  | some i => M.ret (.p (.int (-i)))
  | none => M.stuck
theorem e_neg (h : PE X a (tE X.K W fa)) : PE X (.UnaryOp .USub a pos) (tE X.K W (bNeg fa)) := by
  refine (pe_un un_neg h).imp fun σ H Q h => ?_
  refine tG.mono (tG.bind (f := fa) h) fun v H1 ⟨ρ1, A1, σD, d, r1, e1, rd, o⟩ => ?_
  cases q : intOf d with
  | none => rw [q] at o; exact o.elim
  | some i => rw [q] at o; exact ⟨i, rd_int rd q, OkE.ret r1 o (by simp only [RelD, RelP])⟩
/-- is None -/
def isNon : D → Bool
  | .p .non => true
  | _ => false
def oIs : D → D → M D := fun x y => match y with
  | .p .non => M.ret (.p (.bl (isNon x)))
  | _ => M.stuck
def oIsNot : D → D → M D := fun x y => match y with
  | .p .non => M.ret (.p (.bl (!isNon x)))
  | _ => M.stuck
theorem isNon_rel {x : D} {v : V} (h : RelD K ρ A H x v) : decide (v = .non) = isNon x := by
  cases x with
  | ref i => obtain ⟨a, _, rfl⟩ := h; rfl
  | p q =>
    cases q with
    | non => simp only [RelD, RelP] at h; subst h; rfl
    | bl _ => simp only [RelD, RelP] at h; subst h; rfl
    | int _ => simp only [RelD, RelP] at h; subst h; rfl
    | str _ => simp only [RelD, RelP] at h; subst h; rfl
    | tup _ => simp only [RelD, RelP] at h; obtain ⟨a, _, rfl, _⟩ := h; rfl
    | ktup _ => simp only [RelD, RelP] at h; obtain ⟨a, _, rfl, _⟩ := h; rfl
    | lst _ => simp only [RelD, RelP] at h; obtain ⟨a, _, rfl, _⟩ := h; rfl
    | klst _ => simp only [RelD, RelP] at h; obtain ⟨a, _, rfl, _⟩ := h; rfl
    | dic _ _ => simp only [RelD, RelP] at h; obtain ⟨a, rfl, _⟩ := h; rfl
    | obj _ _ => simp only [RelD, RelP] at h; obtain ⟨a, _, _, rfl, _⟩ := h; rfl
    | rf _ => simp only [RelD, RelP] at h; subst h; rfl
    | ty _ => simp only [RelD, RelP] at h; subst h; rfl
theorem r2_is : R2D K W oIs (fun x y H Q => y = .non ∧ Q (.bl (decide (x = .non))) H) := by
  intro ρ A σ H x y v u Q r rx ry o
  unfold oIs at o
  split at o
  · simp only [RelD, RelP] at ry
    exact ⟨ry, by rw [isNon_rel rx]; exact OkE.ret r o (by simp only [RelD, RelP])⟩
  · exact o.elim
theorem r2_isnot : R2D K W oIsNot (fun x y H Q => y = .non ∧ Q (.bl (!decide (x = .non))) H) := by
  intro ρ A σ H x y v u Q r rx ry o
  unfold oIsNot at o
  split at o
  · simp only [RelD, RelP] at ry
    exact ⟨ry, by rw [isNon_rel rx]; exact OkE.ret r o (by simp only [RelD, RelP])⟩
  · exact o.elim
theorem op_isNX : OpR X (compareOp .Is) (fun x y H Q => y = .non ∧ Q (.bl (decide (x = .non))) H) := op_isN
theorem op_isNotNX : OpR X (compareOp .IsNot) (fun x y H Q => y = .non ∧ Q (.bl (!decide (x = .non))) H) := op_notN
theorem call_int1X : CallR X (.type "int") (fun xs H Q => (∃ i, xs = [.int i] ∧ Q (.int i) H) ∨ ∃ k, xs = [.bl k] ∧ Q (.int (if k then 1 else 0)) H) := call_int1
/-- xs[::-1] -/
def bRev (f : BE) : BE := fun σ => (f σ).bind fun d A => match lstOf d A with
  | some xs => some (.val (.p (.lst xs.reverse)) A)
  | none => none
theorem RelPs.reverse {L : Addr → Prop} : ∀ {xs : List P} {vs : List V}, RelPs K L H xs vs → RelPs K L H xs.reverse vs.reverse
  | [], _, h => by simp only [RelPs] at h; subst h; simp only [List.reverse_nil, RelPs]
  | x :: r, _, h => by
    simp only [RelPs] at h
    obtain ⟨v, w, rfl, a, b⟩ := h
    rw [List.reverse_cons, List.reverse_cons]
    exact RelPs.append (RelPs.reverse b) (by simp only [RelPs]; exact ⟨v, [], rfl, a, rfl⟩)
theorem e_rev {k : Nat} {p1 p2 p3 : Pos} (h : PE X a (tE X.K W fa)) : PE X (.Subscript a (.Slice none none (some (.UnaryOp .USub (.Constant (.int 1) k p1) p2)) p3) pos) (tE X.K W (bRev fa)) := by
  refine (pe_revL h).imp fun σ H Q h => ?_
  refine tG.mono (tG.bind (f := fa) h) fun v H1 ⟨ρ1, A1, σD, d, r1, e1, rd, o⟩ => ?_
  cases q : lstOf d A1 with
  | none => rw [q] at o; exact o.elim
  | some xs =>
    rw [q] at o
    obtain ⟨p, vs, rfl, hs, rp⟩ := rd_lst r1 rd q
    refine ⟨p, vs, rfl, .inl (.inl hs), fun l hl => ?_⟩
    have s := Step.laid r1 (.lst vs.reverse) hl
    exact o _ _ _ s (by simp only [RelD, RelP]; exact ⟨l, _, rfl, r1.notNone hl, upd_same, rp.reverse.step r1 s⟩)
/-- a, b, .. = a list -/
def gTpL (n : Nat) (g : BGs) : BG := fun d σ A => match lstOf d A with
  | some xs => if xs.length = n then g (xs.map .p) σ A else none
  | none => none
theorem g_tupL {is : List Nat} {es : List Expr} {k : Nat} {g : BGs} {n : Nat} (hc : X.calm = true) (h : PGs X es (tGs X.K is g)) (hn : (assignEach es X.env).length = n := by rfl) (hst : (assignEach es X.env).findIdx? (·.1) = none := by rfl) :
    PG X (.Tuple es k pos) (tGt X.K is (gTpL n g)) := by
  refine (pg_lst hc h hn hst).imp fun v σ H Q ⟨ρ, A, σD, d, r, e, rd, o⟩ => ?_
  unfold gTpL at o
  cases q : lstOf d A with
  | none => rw [q] at o; exact o.elim
  | some xs =>
    rw [q] at o
    simp only at o
    by_cases hl : xs.length = n
    · rw [if_pos hl] at o
      obtain ⟨p, vs, rfl, hs, rp⟩ := rd_lst r rd q
      exact ⟨p, vs, rfl, .inl (.inl hs), by rw [← rp.length]; exact hl, ρ, A, σD, _, r, e, RelDs.map rp, o⟩
    · rw [if_neg hl] at o; exact o.elim
/-- *e among arguments -/
def bStar (f : BE) (g : BA) : BA := fun σ => (f σ).bind fun d A => match seqOf d A with
  | some xs => ((g σ).bind fun ds => M.ret (xs.map .p ++ ds)) A
  | none => none
theorem a_star {e : Expr} {es : List Expr} {p : Pos} {f : BE} {g : BA} (he : PE X e (tE X.K W f)) (hr : PA X es (tA X.K W g)) (hs : starEach (.Starred e p :: es) X.env = (true, eval e X.env) :: starEach es X.env := by rfl) : PA X (.Starred e p :: es) (tA X.K W (bStar f g)) := by
  refine (StX.pa_star he hr hs).imp fun σ H Q h => ?_
  refine tG.mono (tG.bind (f := f) h) fun v H1 ⟨ρ1, A1, σD, d, r1, e1, rd, o⟩ => ?_
  cases q : seqOf d A1 with
  | none => rw [q] at o; exact o.elim
  | some xs =>
    rw [q] at o
    obtain ⟨p, vs, rfl, hs, rp⟩ := rd_seq r1 rd q
    refine ⟨p, vs, rfl, hs.symm, ρ1, A1, σD, r1, e1, (OkE.bind (R := RelDs X.K) (f := g σD) (g := fun ds => M.ret (xs.map .p ++ ds)) o).mono fun us H2 ⟨ρ2, A2, ds, s2, rds, o2⟩ => ?_⟩
    exact OkE.ret s2.rep o2 ((RelDs.map (RelPs.step r1 s2 rp)).append rds)
theorem e_tupS {es : List Expr} {k : Nat} {ga : BA} (h : PA X es (tA X.K W ga)) : PE X (.Tuple es k pos) (tE X.K W (bTup ga)) := e_tup h
theorem e_lstS {es : List Expr} {ga : BA} (h : PA X es (tA X.K W ga)) : PE X (.List es pos) (tE X.K W (bLst ga)) := e_lst h
/-- a, b = x, y with plain local names -/
def sTwo (i j : Nat) (f g : BE) : BS := sThen f fun d => sThen g fun d' σ A => some (.nx ((σ.set i (some d)).set j (some d')) A)
theorem s_two (hN : X.N.Nodup) (i j : Nat) {x y : Str} {px py pt pt2 : Pos} {kt k2 : Nat} (hc : X.calm = true) (ha : PE X a (tE X.K W fa)) (hb : PE X b (tE X.K W fb)) (hi : X.N[i]? = some x := by rfl) (hj : X.N[j]? = some y := by rfl) (hij : i ≠ j := by decide)
    (hx : X.env.scope.names.lookup x = some .local := by rfl) (hy : X.env.scope.names.lookup y = some .local := by rfl) (hs1 : starEach [a, b] X.env = (false, eval a X.env) :: starEach [b] X.env := by rfl) (hs2 : starEach [b] X.env = (false, eval b X.env) :: starEach [] X.env := by rfl)
    (hw : swappedStores [.Tuple [.Name x px, .Name y py] kt pt] (.Tuple [a, b] k2 pt2) X.env = pure (some [x, y]) := by rfl)
    (hs : swapsWithSole [.Tuple [.Name x px, .Name y py] kt pt] (.Tuple [a, b] k2 pt2) pos.line X.env = pure false := by rfl) :
    PS X (.Assign [.Tuple [.Name x px, .Name y py] kt pt] (.Tuple [a, b] k2 pt2) pos) (tS X.K W (sTwo i j fa fb)) := by
  refine (ps_par hc hN hi hj hij hx hy (pa_cons ha (pa_cons hb pa_nil hs2) hs1) hw hs).imp fun D σ H ⟨ρ, A, σD, r, e, o⟩ => ?_
  refine ⟨ρ, A, σD, r, e, (OkS.thn r e o).mono fun v H1 ⟨ρ1, A1, d, s1, rv, o1⟩ => ?_⟩
  have e1 := e.step r s1
  refine ⟨ρ1, A1, σD, s1.rep, e1, (OkS.thn s1.rep e1 o1).mono fun u H2 ⟨ρ2, A2, d', s2, ru, o2⟩ => ?_⟩
  exact ⟨v, u, rfl, o2 _ _ _ (Step.refl s2.rep) (((e1.step s1.rep s2).set (rv.step s1.rep s2)).set ru)⟩
theorem bind_none (rest : List Value) {f : Value → Sem (List (Str × Value))} : (newTuple rest >>= f) = (newTuple rest >>= f) := rfl
end
end PF

/-! text PF18 -/
set_option Elab.async false
set_option linter.all false
set_option maxRecDepth 100000
set_option maxHeartbeats 2000000
/-! PF18: sorted, of texts and of tuples of texts: lists, tuples, dicts. -/
namespace PF
open PySem L2 PySem.Spec PyProof.Rows

/-! ### orders -/
structure Ord {α : Type} (lt : α → α → Bool) : Prop where
  asym : ∀ x y, lt x y = true → lt y x = false
  tr : ∀ x y z, lt y x = false → lt z y = false → lt z x = false
  tot : ∀ x y, lt x y = false → lt y x = false → x = y
theorem Ord.irr {α : Type} {lt : α → α → Bool} (O : Ord lt) (x : α) : lt x x = false := by
  cases h : lt x x with
  | false => rfl
  | true => have := O.asym x x h; rw [h] at this; exact this
def ltS (x y : Str) : Bool := decide (x.cps.toList < y.cps.toList)
theorem ltS_ord : Ord ltS where
  asym x y h := by
    unfold ltS at h ⊢
    simp only [decide_eq_true_eq, decide_eq_false_iff_not] at h ⊢
    exact List.not_lt.mpr (List.le_of_lt h)
  tr x y z h1 h2 := by
    unfold ltS at h1 h2 ⊢
    simp only [decide_eq_false_iff_not, List.not_lt] at h1 h2 ⊢
    exact List.le_trans h1 h2
  tot x y h1 h2 := by
    unfold ltS at h1 h2
    simp only [decide_eq_false_iff_not, List.not_lt] at h1 h2
    have e := List.le_antisymm h2 h1
    cases x; cases y
    simp only [Str.mk.injEq]
    exact Array.toList_inj.mp e
def ltK : List Str → List Str → Bool
  | [], [] => false
  | [], _ :: _ => true
  | _ :: _, [] => false
  | x :: xs, y :: ys => if x = y then ltK xs ys else ltS x y
theorem ltK_asym : ∀ x y, ltK x y = true → ltK y x = false
  | [], [], h => by simp [ltK] at h
  | [], _ :: _, _ => by simp [ltK]
  | _ :: _, [], h => by simp [ltK] at h
  | x :: xs, y :: ys, h => by
    unfold ltK at h ⊢
    by_cases e : x = y
    · rw [if_pos e] at h; rw [if_pos e.symm]; exact ltK_asym xs ys h
    · rw [if_neg e] at h; rw [if_neg (Ne.symm e)]; exact ltS_ord.asym _ _ h
theorem ltK_tot : ∀ x y, ltK x y = false → ltK y x = false → x = y
  | [], [], _, _ => rfl
  | [], _ :: _, h, _ => by simp [ltK] at h
  | _ :: _, [], _, h => by simp [ltK] at h
  | x :: xs, y :: ys, h1, h2 => by
    unfold ltK at h1 h2
    by_cases e : x = y
    · rw [if_pos e] at h1; rw [if_pos e.symm] at h2; rw [e, ltK_tot xs ys h1 h2]
    · rw [if_neg e] at h1; rw [if_neg (Ne.symm e)] at h2; exact absurd (ltS_ord.tot _ _ h1 h2) e
theorem ltK_tr : ∀ x y z, ltK y x = false → ltK z y = false → ltK z x = false
  | x, [], z, h1, h2 => by
    cases x with
    | nil => exact h2
    | cons _ _ => simp [ltK] at h1
  | x, b :: bs, [], h1, h2 => by simp [ltK] at h2
  | [], b :: bs, c :: cs, h1, h2 => by simp [ltK]
  | a :: as, b :: bs, c :: cs, h1, h2 => by
    unfold ltK at h1 h2 ⊢
    by_cases e : b = a
    · rw [if_pos e] at h1
      by_cases f : c = b
      · rw [if_pos f] at h2
        rw [if_pos (f.trans e)]
        exact ltK_tr as bs cs h1 h2
      · rw [if_neg f] at h2
        rw [if_neg (by rw [← e]; exact f), ← e]
        exact h2
    · rw [if_neg e] at h1
      by_cases f : c = b
      · rw [if_pos f] at h2
        rw [if_neg (by rw [f]; exact e), f]
        exact h1
      · rw [if_neg f] at h2
        have h3 := ltS_ord.tr _ _ _ h1 h2
        by_cases g : c = a
        · subst g
          exact absurd (ltS_ord.tot _ _ h2 h1).symm (fun z => e z)
        · rw [if_neg g]; exact h3
theorem ltK_ord : Ord ltK := ⟨ltK_asym, ltK_tr, ltK_tot⟩

/-! ### the one sorted list -/
section
variable {α : Type}
abbrev Sd (lt : α → α → Bool) (l : List α) : Prop := l.Pairwise fun x y => lt y x = false
def ins (lt : α → α → Bool) (x : α) : List α → List α
  | [] => [x]
  | y :: r => if lt y x = true then y :: ins lt x r else x :: y :: r
def isort (lt : α → α → Bool) : List α → List α
  | [] => []
  | x :: r => ins lt x (isort lt r)
theorem ins_perm (lt : α → α → Bool) (x : α) : ∀ l, (ins lt x l).Perm (x :: l)
  | [] => List.Perm.refl _
  | y :: r => by
    unfold ins
    split
    · exact ((ins_perm lt x r).cons y).trans (List.Perm.swap x y r)
    · exact List.Perm.refl _
theorem isort_perm (lt : α → α → Bool) : ∀ l, (isort lt l).Perm l
  | [] => List.Perm.refl _
  | x :: r => (ins_perm lt x _).trans ((isort_perm lt r).cons x)
theorem ins_sd {lt : α → α → Bool} (O : Ord lt) (x : α) : ∀ {l : List α}, Sd lt l → Sd lt (ins lt x l)
  | [], _ => List.pairwise_singleton _ _
  | y :: r, h => by
    obtain ⟨h1, h2⟩ := List.pairwise_cons.mp h
    unfold ins
    split
    · rename_i hy
      refine List.pairwise_cons.mpr ⟨fun z hz => ?_, ins_sd O x h2⟩
      rcases List.mem_cons.mp ((ins_perm lt x r).mem_iff.mp hz) with e | hz
      · subst e; exact O.asym _ _ hy
      · exact h1 z hz
    · rename_i hy
      have hy : lt y x = false := by simpa using hy
      refine List.pairwise_cons.mpr ⟨fun z hz => ?_, h⟩
      rcases List.mem_cons.mp hz with e | hz
      · subst e; exact hy
      · exact O.tr _ _ _ hy (h1 z hz)
theorem isort_sd {lt : α → α → Bool} (O : Ord lt) : ∀ l : List α, Sd lt (isort lt l)
  | [] => List.Pairwise.nil
  | x :: r => ins_sd O x (isort_sd O r)
theorem sd_uniq {lt : α → α → Bool} (O : Ord lt) : ∀ {l m : List α}, Sd lt l → Sd lt m → l.Perm m → l = m
  | [], m, _, _, h => (List.Perm.eq_nil h.symm).symm
  | x :: l, [], _, _, h => absurd h.length_eq (by simp)
  | x :: l, y :: m, hl, hm, h => by
    obtain ⟨l1, l2⟩ := List.pairwise_cons.mp hl
    obtain ⟨m1, m2⟩ := List.pairwise_cons.mp hm
    have a1 : lt x y = false := by
      rcases List.mem_cons.mp (h.mem_iff.mp (List.mem_cons_self (a := x) (l := l))) with e | hx
      · rw [e]; exact O.irr y
      · exact m1 x hx
    have a2 : lt y x = false := by
      rcases List.mem_cons.mp (h.mem_iff.mpr (List.mem_cons_self (a := y) (l := m))) with e | hy
      · rw [e]; exact O.irr x
      · exact l1 y hy
    have e := O.tot _ _ a1 a2
    subst e
    rw [sd_uniq O l2 m2 h.cons_inv]
end

/-! ### what is sorted: values by a key -/
section
variable {prog : Program} {w : World} {A : Around} {E : Value → Shared → Prop} {s : Shared}
/-- v is a text, or a tuple of texts -/
inductive KeyAt (h : Heap) : Bool → Value → List Str → Prop
  | str (x : Str) (t : Tok) : KeyAt h false (.str x t) [x]
  | tup {a : Addr} {o : Obj} {us : List Value} {xs : List Str} {n : Nat} (ho : h.get? a = some o) (hc : o.cls = .type "tuple") (hd : o.data = .seq us.toArray n) (hs : StrsAre us xs) (hne : xs ≠ []) : KeyAt h true (.ref a) xs
theorem strs_uniq : ∀ {us : List Value} {xs ys : List Str}, StrsAre us xs → StrsAre us ys → xs = ys
  | _, _, _, .nil, .nil => rfl
  | _, _, _, .cons x t h, .cons _ _ h' => by rw [strs_uniq h h']
theorem KeyAt.uniq {h : Heap} {b b' : Bool} {v : Value} {k k' : List Str} (h1 : KeyAt h b v k) (h2 : KeyAt h b' v k') : k = k' := by
  cases h1 with
  | str x t => cases h2; rfl
  | tup ho hc hd hs hne =>
    cases h2 with
    | tup ho' hc' hd' hs' hne' =>
      rw [ho] at ho'; cases ho'
      rw [hd] at hd'
      have e : _ = _ := (PySem.Data.seq.inj hd').1
      have e2 := congrArg Array.toList e
      simp only [List.toList_toArray] at e2
      subst e2
      exact strs_uniq hs hs'
theorem KeyAt.keeps {h h' : Heap} {b : Bool} {v : Value} {k : List Str} (x : KeyAt h b v k) (kp : ∀ c o, h.get? c = some o → o.cls = .type "tuple" → h'.get? c = some o) : KeyAt h' b v k := by
  cases x with
  | str x t => exact .str x t
  | tup ho hc hd hs hne => exact .tup (kp _ _ ho hc) hc hd hs hne
open Classical in
noncomputable def keyAt (h : Heap) (b : Bool) (v : Value) : List Str := if e : ∃ k, KeyAt h b v k then choose e else []
theorem keyAt_of {h : Heap} {b : Bool} {v : Value} {k : List Str} (x : KeyAt h b v k) : keyAt h b v = k := by
  have e : ∃ k, KeyAt h b v k := ⟨k, x⟩
  unfold keyAt
  rw [dif_pos e]
  exact (Classical.choose_spec e).uniq x
theorem swo_key {α : Type} (f : α → List Str) : SrtO.Swo fun v u => ltK (f v) (f u) := ⟨fun x y h => ltK_asym _ _ h, fun x y z h1 h2 => ltK_tr _ _ _ h1 h2⟩
theorem lex_strs {fin : Bool} {Q : Bool → Shared → Prop} : ∀ {us vs : List Value} {xs ys : List Str} (i : Nat) , StrsAre us xs → StrsAre vs ys → fin = decide (xs.length < ys.length) → Q (ltK xs ys) s → PySem.W.KatLex prog w A true fin Q (us.zip vs) i s
  | _, _, _, _, i, .nil, .nil, hf, q => by subst hf; exact q
  | _, _, _, _, i, .nil, .cons y u r, hf, q => by subst hf; show Q _ s; simpa [ltK] using q
  | _, _, _, _, i, .cons x t r, .nil, hf, q => by subst hf; show Q _ s; simpa [ltK] using q
  | _, _, _, _, i, .cons x t r, .cons y u r', hf, q => by
    rw [List.zip_cons_cons]
    have eqa : SeqAt.EqAt A s (.str x t) (.str y u) (decide (x = y)) := by
      have z := eqAt_V (A := A) (s := s) (y := .str x) (x := .str y) (u := .str x t) (v := .str y u) ⟨t, rfl⟩ ⟨u, rfl⟩ rfl rfl
      have e : eqV (.str x) (.str y) = decide (x = y) := by
        show (x == y) = _
        by_cases h : x = y
        · subst h; simp
        · simp [h]
      rwa [e] at z
    refine PySem.W.kat_cons (eqa prog w _ _ ?_)
    refine PySem.W.kat_go (fun e1 => ?_) (fun e1 => ?_)
    · have ex : x = y := by simpa using e1
      refine PySem.W.kat_yes (lex_strs (i + 1) r r' (by rw [hf]; simp) ?_)
      unfold ltK at q
      rw [if_pos ex] at q
      exact q
    · have ex : ¬ x = y := by simpa using e1
      unfold ltK at q
      rw [if_neg ex] at q
      cases i with
      | zero => exact PySem.W.kat_no (oneLt_str q)
      | succ j =>
        have z : wpAny (model prog w) A (oneLt' false (.str x t) (.str y u)) Q (fun _ _ => False) s := PySem.W.kat_one _ _ (PyProof.Rows.lt_str q)
        refine PySem.W.kat_no ?_
        simpa using z
theorem key_cmp {b : Bool} {vs : List Value} (hp : ∀ v ∈ vs, ∃ k, KeyAt s.heap b v k) : SrtO.Cmp prog w A s (if b then tuples' true else oneType') (fun p => p.1 ∈ vs) (SrtO.lt2 fun v u => ltK (keyAt s.heap b v) (keyAt s.heap b u)) := by
  intro p q hm hm'
  obtain ⟨k1, h1⟩ := hp _ hm
  obtain ⟨k2, h2⟩ := hp _ hm'
  show wpAny (model prog w) A (keyLt' _ p.1 q.1) (fun r s' => s' = s ∧ r = ltK (keyAt s.heap b p.1) (keyAt s.heap b q.1)) (fun _ _ => False) s
  rw [keyAt_of h1, keyAt_of h2]
  generalize p.1 = v at h1 ⊢
  generalize q.1 = u at h2 ⊢
  cases h1 with
  | str x t =>
    cases h2 with
    | str y r =>
      show wpAny (model prog w) A (keyLt' oneType' _ _) _ _ _
      rw [keyLt'_oneType]
      refine oneLt_str ⟨rfl, ?_⟩
      unfold ltK
      by_cases e : x = y
      · subst e
        rw [if_pos rfl]
        have := ltS_ord.irr x
        unfold ltS at this
        rw [this]; rfl
      · rw [if_neg e]; rfl
  | tup ho hc hd hs hne =>
    cases h2 with
    | tup ho' hc' hd' hs' hne' =>
      show wpAny (model prog w) A (keyLt' (tuples' true) _ _) _ _ _
      refine PySem.W.kat_lt ho hd ho' hd' ?_
      simp only [List.toList_toArray, List.size_toArray]
      exact lex_strs 0 hs hs' (by rw [hs.length, hs'.length]) ⟨rfl, rfl⟩
theorem strs_of_keys : ∀ {vs : List Value}, (∀ v ∈ vs, ∃ k, KeyAt s.heap false v k) → ∃ xs, StrsAre vs xs
  | [], _ => ⟨[], .nil⟩
  | v :: vs, h => by
    obtain ⟨k, hk⟩ := h v List.mem_cons_self
    obtain ⟨xs, hx⟩ := strs_of_keys fun u hu => h u (List.mem_cons_of_mem _ hu)
    cases hk with
    | str x t => exact ⟨x :: xs, .cons x t hx⟩
theorem firsts_str {h : Heap} : ∀ vs : List Value, (∀ v ∈ vs, ∃ k, KeyAt h true v k) → ∃ fs, PySem.W.KatTups h vs fs ∧ fs.length = vs.length ∧ ∀ f ∈ fs, ∃ x t, f = Value.str x t
  | [], _ => ⟨[], PySem.W.KatTups.nil, rfl, fun f hf => by simp at hf⟩
  | v :: vs, x => by
    obtain ⟨fs, k, hl, hi⟩ := firsts_str vs fun u hu => x u (List.mem_cons_of_mem _ hu)
    obtain ⟨ks, hk⟩ := x v List.mem_cons_self
    cases hk with
    | tup ho hc hd hs hne =>
      cases hs with
      | nil => exact absurd rfl hne
      | cons y t r =>
        refine ⟨.str y t :: fs, PySem.W.KatTups.cons ho hc hd (by simp) k, by rw [List.length_cons, List.length_cons, hl], fun f hf => ?_⟩
        rcases List.mem_cons.mp hf with e | hf
        · exact ⟨y, t, e⟩
        · exact hi f hf
theorem keys_sortable {b : Bool} {a : Addr} {vs : List Value} (h2 : 2 ≤ vs.length) (hp : ∀ v ∈ vs, ∃ k, KeyAt s.heap b v k) (ha : ∀ o, s.heap.get? a = some o → o.cls ≠ .type "tuple") : SrtO.SortableO prog w A s a vs fun v u => ltK (keyAt s.heap b v) (keyAt s.heap b u) := by
  intro h' keep
  have kp : ∀ c o, s.heap.get? c = some o → o.cls = .type "tuple" → h'.get? c = some o := fun c o e ec => keep c o (fun z => by subst z; exact ha o e ec) e
  have hp' : ∀ v ∈ vs, ∃ k, KeyAt h' b v k := fun v hm => let ⟨k, hk⟩ := hp v hm; ⟨k, hk.keeps kp⟩
  have cmp := key_cmp (prog := prog) (w := w) (A := A) (s := { s with heap := h' }) hp'
  have cmp' : SrtO.Cmp prog w A { s with heap := h' } (if b then tuples' true else oneType') (fun p => p.1 ∈ vs) (SrtO.lt2 fun v u => ltK (keyAt s.heap b v) (keyAt s.heap b u)) := by
    intro p q hm hm'
    have e := cmp p q hm hm'
    obtain ⟨k1, g1⟩ := hp _ hm
    obtain ⟨k2, g2⟩ := hp _ hm'
    refine wpAny_mono e (fun r s' z => ⟨z.1, z.2.trans ?_⟩) fun _ _ z => z
    show ltK (keyAt h' b p.1) (keyAt h' b q.1) = ltK (keyAt s.heap b p.1) (keyAt s.heap b q.1)
    rw [keyAt_of g1, keyAt_of g2, keyAt_of (g1.keeps kp), keyAt_of (g2.keeps kp)]
  refine ⟨_, fun Q E hq => ?_, cmp'⟩
  cases b with
  | false =>
    obtain ⟨xs, hx⟩ := strs_of_keys (s := { s with heap := h' }) hp'
    match vs, hx, h2 with
    | v1 :: v2 :: rest, hx, _ => rw [keyKind_strs hx]; exact wpAny_pure hq
    | [], _, h => exact absurd h (by decide)
    | [v], _, h => exact absurd h (by simp)
  | true =>
    obtain ⟨fs, h1, h2', h3⟩ := firsts_str vs hp'
    refine PySem.W.kat_kind (T := .type "str") h1 (by omega) (fun f hm => ?_) (by rfl) ?_
    · obtain ⟨x, t, rfl⟩ := h3 f hm
      exact PySem.W.Looks.now
    · have e : (Value.type "str" != Value.type "tuple") = true := by first | decide +kernel | rfl | decide
      rw [e]
      exact hq
end
end PF

/-! text PF19 -/
set_option Elab.async false
set_option linter.all false
set_option maxRecDepth 100000
set_option maxHeartbeats 2000000
/-! PF19: sorted as a built-in. -/
namespace PF
open PySem L2 PySem.Spec PyProof.Rows
/-- what is walked by collect -/
def ColR (X : Cx) (H : Hp) (x : V) (Kp : List V → Prop) : Prop :=
  ∀ (pins : List (Addr × Obj)) (σ : St) (s : Shared) (u : Value) (R : List Value → Shared → Prop), Inv X pins σ H s → RelV x u →
    (∀ (h' : Heap) (dr : Drawn) (tk : Nat) (us : List Value) (xs : List V), (∀ b o, s.heap.get? b = some o → h'.get? b = some o) → Vals xs us → us.length ≤ sizeLine → Kp xs → R us { s with heap := h', drawn := dr, toks := tk }) → wpAny (model X.prog X.w) X.A.in1 (collect u) R X.xe s
/-- a text, or a tuple of texts -/
def ElK (H : Hp) (b : Bool) (v : V) (k : List Str) : Prop := if b then ∃ a, v = .ref a ∧ H a = some (.tup (k.map V.str)) ∧ k ≠ [] else ∃ x, v = .str x ∧ k = [x]
def rSortX (X : Cx) : List V → Hp → VK → Prop := fun vs H Q => ∃ x Kp b, vs = [x] ∧ ColR X H x Kp ∧ ∀ xs, Kp xs → ∃ ks, Paired (ElK H b) xs ks ∧ ∀ ys p, Paired (ElK H b) ys (isort ltK ks) → H p = none → Q (.ref p) (upd H p (.lst ys))
def backW : Value → V
  | .str x _ => .str x
  | .ref a => .ref a
  | _ => .non
section
variable {X : Cx} {W : WX} {K : PySem.W.Frag} {ρ ρ' : List Addr} {A A' : AH} {H H' : Hp} {σ : St} {σD : EnvD}
theorem key_of_el {pins : List (Addr × Obj)} {s : Shared} {b : Bool} {v : V} {u : Value} {k : List Str} (I : Inv X pins σ H s) (r : RelV v u) (h : ElK H b v k) : KeyAt s.heap b u k ∧ RelV (backW u) u ∧ backW u = v := by
  cases b with
  | false =>
    obtain ⟨x, rfl, rfl⟩ := (show ∃ x, v = .str x ∧ k = [x] from h)
    obtain ⟨t, rfl⟩ := r
    exact ⟨.str x t, ⟨t, rfl⟩, rfl⟩
  | true =>
    obtain ⟨a, rfl, ha, hne⟩ := (show ∃ a, v = .ref a ∧ H a = some (.tup (k.map V.str)) ∧ k ≠ [] from h)
    obtain rfl : u = Value.ref a := r
    obtain ⟨its, rv, ⟨o, ho, hc, n, hd⟩, _⟩ := I.tuple (SqT.of ha)
    exact ⟨.tup ho hc hd rv.strs hne, rfl, rfl⟩
theorem keys_of_el {pins : List (Addr × Obj)} {s : Shared} {b : Bool} (I : Inv X pins σ H s) : ∀ {xs : List V} {us : List Value} {ks : List (List Str)}, Vals xs us → Paired (ElK H b) xs ks → us.map (keyAt s.heap b) = ks ∧ (∀ u ∈ us, (∃ k, KeyAt s.heap b u k) ∧ RelV (backW u) u ∧ ElK H b (backW u) (keyAt s.heap b u))
  | [], _, _, .nil, .nil => ⟨rfl, fun u hu => by cases hu⟩
  | x :: xs, u :: us, k :: ks, .cons r rt, .cons e et => by
    obtain ⟨h1, h2⟩ := keys_of_el I rt et
    obtain ⟨g1, g2, g3⟩ := key_of_el I r e
    refine ⟨by rw [List.map_cons, keyAt_of g1, h1], fun v hv => ?_⟩
    rcases List.mem_cons.mp hv with e1 | hv
    · subst e1
      exact ⟨⟨k, g1⟩, g2, by rw [keyAt_of g1, g3]; exact e⟩
    · exact h2 v hv
theorem vals_backW : ∀ {us : List Value}, (∀ u ∈ us, RelV (backW u) u) → Vals (us.map backW) us
  | [], _ => .nil
  | u :: us, h => .cons (h u List.mem_cons_self) (vals_backW fun v hv => h v (List.mem_cons_of_mem _ hv))
theorem el_back {b : Bool} {f : Value → List Str} : ∀ {us : List Value}, (∀ u ∈ us, ElK H b (backW u) (f u)) → Paired (ElK H b) (us.map backW) (us.map f)
  | [], _ => .nil
  | u :: us, h => .cons (h u List.mem_cons_self) (el_back fun v hv => h v (List.mem_cons_of_mem _ hv))
theorem call_sortedX (hc : X.calm = true) (hu : X.A.units + 65 < cLine) : CallR X (.builtin "sorted") (rSortX X) := by
  intro pins s σ H vs us Q I r h
  obtain ⟨x, Kp, b, rfl, col, hk⟩ := h
  obtain ⟨u, rfl, ru⟩ := vals1 r
  refine Calls.call_function_entry PyProof.Rows.kind_sorted PyProof.Rows.plain_sorted PyProof.Rows.entry_sorted (PyProof.Rows.args_sorted1 _) ?_
  unfold Builtin.«sorted»
  refine wpAny_bind (m := checkCount "sorted" 1 1 _) (wpAny_pure ?_)
  refine wpAny_bind (col pins σ s u _ I ru fun h' dr tk us xs kp rv hz hx => ?_)
  obtain ⟨ks, hel, q⟩ := hk xs hx
  have I1 : Inv X pins σ H { s with heap := h', gens := s.gens, drawn := dr, toks := tk } := I.call (ch := []) (Un.kept kp) (I.hok.kept kp) I.bare (fun _ z => nomatch z)
  obtain ⟨e1, e2⟩ := keys_of_el I1 rv hel
  refine wpAny_bind (wpAny_newList ?_ hz)
  have hoL : (h'.push (seqObj "list" us.toArray 0)).get? h'.objs.size = some (seqObj "list" us.toArray 0) := Heap.get?_push_size _ rfl
  have kpL : ∀ c o, h'.get? c = some o → c ≠ h'.objs.size ∧ (h'.push (seqObj "list" us.toArray 0)).get? c = some o := fun c o e => ⟨Nat.ne_of_lt (Heap.lt_size e), Heap.get?_push_of_some _ e⟩
  have hkeys : ∀ v ∈ us, ∃ k, KeyAt (h'.push (seqObj "list" us.toArray 0)) b v k := fun v hv => let ⟨⟨k, hk⟩, _⟩ := e2 v hv; ⟨k, hk.keeps fun c o e _ => (kpL c o e).2⟩
  refine wpAny_bind (wpAny_holding (wpAny_call_entry PyProof.Rows.slot_list_sort ⟨_, hoL, rfl⟩ PyProof.Rows.entry_list_sort (SrtO.list_sort_ord (swo_key (keyAt (h'.push (seqObj "list" us.toArray 0)) b)) hoL hz
    (fun h2 => keys_sortable (s := { s with heap := h'.push (seqObj "list" us.toArray 0), drawn := dr, toks := tk }) h2 hkeys fun o e => ?_) fun out hs hb => ⟨_, rfl, ?_⟩) (PyProof.Rows.args_list_sort _)))
  · have e' : some o = some (seqObj "list" us.toArray 0) := e.symm.trans hoL
    cases e'
    intro c
    exact absurd (Value.type.inj c) (by decide)
  · refine wpAny_pure ⟨_, rfl, ?_⟩
    have keyEq : ∀ v ∈ us, keyAt (h'.push (seqObj "list" us.toArray 0)) b v = keyAt h' b v := fun v hv => by
      obtain ⟨⟨k, hk⟩, _⟩ := e2 v hv
      rw [keyAt_of hk, keyAt_of (hk.keeps fun c o e _ => (kpL c o e).2)]
    have hmem : ∀ v ∈ out, v ∈ us := fun v hv => hb.perm.mem_iff.mp hv
    have hsd : Sd ltK (out.map (keyAt h' b)) := by
      refine List.pairwise_map.mpr ?_
      have hs' : out.Pairwise fun v u => ltK (keyAt (h'.push (seqObj "list" us.toArray 0)) b u) (keyAt (h'.push (seqObj "list" us.toArray 0)) b v) = false := hs
      refine hs'.imp_of_mem fun {a c} ha hc h => ?_
      rw [← keyEq a (hmem a ha), ← keyEq c (hmem c hc)]
      exact h
    have hpm : (out.map (keyAt h' b)).Perm ks := by rw [← e1]; exact hb.perm.map _
    have huq : out.map (keyAt h' b) = isort ltK ks := sd_uniq ltK_ord hsd (isort_sd ltK_ord ks) (hpm.trans (isort_perm ltK ks).symm)
    obtain ⟨ep, he'⟩ := PyProof.Rows.sortedHeap_at (vs := us) (out := out.toArray) hoL
    have hvals : Vals (out.map backW) out := vals_backW fun v hv => (e2 v (hmem v hv)).2.1
    have hel2 : Paired (ElK H b) (out.map backW) (isort ltK ks) := by rw [← huq]; exact el_back fun v hv => (e2 v (hmem v hv)).2.2
    have hlen : (out.map backW).length ≤ sizeLine := by rw [List.length_map, hb.len]; exact hz
    refine ⟨.ref h'.objs.size, upd H h'.objs.size (.lst (out.map backW)), I1.laid (t' := tk) (fun c o e => ?_) (Nat.le_refl _) ⟨hlen, out, ep, hvals, he'⟩, rfl, q _ _ hel2 (I1.hok.fresh (Nat.le_refl _))⟩
    have hlt := Heap.lt_size e
    show (PyProof.Rows.sortedHeap (h'.push (seqObj "list" us.toArray 0)) h'.objs.size us out.toArray).get? c = some o
    rw [PyProof.Rows.sortedHeap_old (Nat.ne_of_lt hlt) (by rw [PyProof.Rows.size_push']; exact Nat.lt_succ_of_lt hlt)]
    exact Heap.get?_push_of_some _ e
/-! ### collecting -/
theorem col_seq {a : Addr} {xs : List V} (h : SqL X.K H a xs ∨ SqT X.K H a xs) : ColR X H (.ref a) (fun ys => ys = xs) := by
  intro pins σ s u R I ru hR
  obtain rfl : u = Value.ref a := ru
  rcases h with h | h
  · obtain ⟨its, rv, ⟨o, n, ho, hc, _, hd⟩, hz⟩ := I.list h
    have hl := rv.length
    refine wpAny_collect_seq a (.inl rfl) ho hc hd (fun h' hk => ?_) (by rw [List.size_toArray]; omega)
    rw [List.toList_toArray]
    exact hR h' s.drawn s.toks its xs hk rv (by omega) rfl
  · obtain ⟨its, rv, ⟨o, ho, hc, n, hd⟩, hz⟩ := I.tuple h
    have hl := rv.length
    refine wpAny_collect_seq a (.inr rfl) ho hc hd (fun h' hk => ?_) (by rw [List.size_toArray]; omega)
    rw [List.toList_toArray]
    exact hR h' s.drawn s.toks its xs hk rv (by omega) rfl
theorem col_dT {a : Addr} {kvs : List (List Key × V)} (hc : X.calm = true) (h : Rd H a (.dT kvs)) : ColR X H (.ref a) (fun ys => ∃ bs, ys = bs.map V.ref ∧ IsKeys H kvs bs) := by
  intro pins σ s u R I ru hR
  obtain rfl : u = Value.ref a := ru
  obtain ⟨z, hs, ks, pr, o, es, ep, ho, hx, hdt, he, hn⟩ := (show ObjOk X.prog X.w H s.heap a (.dT kvs) from h.ok I.hok)
  have l1 : es.size = ks.length := size_of_entries he
  have l2 : kvs.length = ks.length := Paired.length pr
  refine PySem.W.kdu_collect (A := X.A.in1) (kdl_raw hs hx hdt) (I.ok.hd hc) ho (by omega) fun h' tk acc kp it => ?_
  have ea : acc.toList = ks.map fun x => Value.ref x.2.1 := by
    have hl : acc.toList.length = ks.length := by rw [Array.length_toList, it.1]; exact l1
    apply List.ext_getElem?
    intro j
    rw [List.getElem?_map]
    cases hj : acc.toList[j]? with
    | none =>
      have h1 := List.getElem?_eq_none_iff.mp hj
      rw [List.getElem?_eq_none (by omega)]; rfl
    | some v =>
      obtain ⟨en, h1, h2⟩ := it.2 j v (by rw [← Array.getElem?_toList]; exact hj)
      have h3 := congrArg (fun l => l[j]?) he
      simp only [List.getElem?_map] at h3
      rw [Array.getElem?_toList] at h3
      rw [h1] at h3
      cases hk : ks[j]? with
      | none => rw [hk] at h3; cases h3
      | some q =>
        rw [hk] at h3
        have h4 := Option.some.inj h3
        rw [h2]
        have h5 := congrArg DictEntry.key h4
        first
        | exact congrArg some h5
        | (simp at h5; simp [h5])
  rw [ea]
  have e3 : (ks.map fun x => Value.ref x.2.1) = (ks.map fun x => x.2.1).map Value.ref := by rw [List.map_map]; rfl
  rw [e3]
  exact hR h' s.drawn tk _ _ kp (vals_refs _) (by rw [List.length_map, List.length_map]; omega) ⟨_, rfl, isKeys_of pr⟩

/-! ### as a function -/
def strsP : List P → Option (List Str)
  | [] => some []
  | .str x :: r => (strsP r).map (x :: ·)
  | _ :: _ => none
/-- the key of an element: b: a tuple of texts; else a text -/
def keyP (b : Bool) (x : P) : Option (List Str) := match b, x with
  | false, .str s => some [s]
  | true, .tup xs => match strsP xs with
    | some (k :: ks) => some (k :: ks)
    | _ => none
  | _, _ => none
def unkey (b : Bool) (k : List Str) : P := if b then .tup (k.map .str) else .str (k.headD ⟨#[]⟩)
def keysP (b : Bool) : List P → Option (List (List Str))
  | [] => some []
  | x :: r => match keyP b x, keysP b r with
    | some k, some ks => some (k :: ks)
    | _, _ => none
/-- the sorted list -/
def sortP (xs : List P) : Option (List P) := match keysP false xs with
  | some ks => some ((isort ltK ks).map (unkey false))
  | none => match keysP true xs with
    | some ks => some ((isort ltK ks).map (unkey true))
    | none => none
def colP (d : D) (A : AH) : Option (List P) := match seqOf d A with
  | some xs => some xs
  | none => match dicOf d A with
    | some (true, kvs) => some (kvs.map (·.1))
    | _ => none
def oSorted : BL := fun ds A => match ds with
  | [d] => match colP d A with
    | some xs => match sortP xs with
      | some ys => some (.val (.p (.lst ys)) A)
      | none => none
    | none => none
  | _ => none
theorem strsP_rel {L : Addr → Prop} : ∀ {xs : List P} {vs : List V} {ks : List Str}, RelPs K L H xs vs → strsP xs = some ks → vs = ks.map V.str ∧ xs = ks.map P.str
  | [], vs, ks, h, e => by cases e; simp only [RelPs] at h; subst h; exact ⟨rfl, rfl⟩
  | x :: r, vs, ks, h, e => by
    simp only [RelPs] at h
    obtain ⟨v, w, rfl, a, b⟩ := h
    unfold strsP at e
    split at e
    · rename_i h0; cases h0
    · rename_i s0 r0 h0
      cases h0
      cases q : strsP r with
      | none => rw [q] at e; cases e
      | some ks' =>
        rw [q] at e; cases e
        simp only [RelP] at a
        obtain ⟨h1, h2⟩ := strsP_rel b q
        exact ⟨by rw [a, h1]; rfl, by rw [h2]; rfl⟩
    · cases e
theorem keyP_rel {L : Addr → Prop} {b : Bool} {x : P} {v : V} {k : List Str} (h : RelP K L H x v) (e : keyP b x = some k) : ElK H b v k := by
  unfold keyP at e
  split at e
  · cases e
    simp only [RelP] at h
    exact ⟨_, h, rfl⟩
  · rename_i xs
    split at e
    · rename_i k0 ks h0
      cases e
      simp only [RelP] at h
      obtain ⟨a, vs, rfl, ha, rp⟩ := h
      exact ⟨a, rfl, by rw [ha, (strsP_rel rp h0).1], by simp⟩
    · cases e
  · cases e
theorem keysP_rel {L : Addr → Prop} {b : Bool} : ∀ {xs : List P} {vs : List V} {ks : List (List Str)}, RelPs K L H xs vs → keysP b xs = some ks → Paired (ElK H b) vs ks
  | [], vs, ks, h, e => by cases e; simp only [RelPs] at h; subst h; exact .nil
  | x :: r, vs, ks, h, e => by
    simp only [RelPs] at h
    obtain ⟨v, w, rfl, a, c⟩ := h
    unfold keysP at e
    cases h1 : keyP b x with
    | none => rw [h1] at e; cases e
    | some k =>
      cases h2 : keysP b r with
      | none => rw [h1, h2] at e; cases e
      | some ks' => rw [h1, h2] at e; cases e; exact .cons (keyP_rel a h1) (keysP_rel c h2)
theorem strs_back {L : Addr → Prop} : ∀ ks : List Str, RelPs K L H (ks.map P.str) (ks.map V.str)
  | [] => by simp only [List.map_nil, RelPs]
  | k :: r => by simp only [List.map_cons, RelPs]; exact ⟨_, _, rfl, by simp only [RelP], strs_back r⟩
theorem unkey_rel {L : Addr → Prop} {b : Bool} : ∀ {ys : List V} {ks : List (List Str)}, Paired (ElK H b) ys ks → RelPs K L H (ks.map (unkey b)) ys
  | _, _, .nil => by simp only [List.map_nil, RelPs]
  | y :: ys, k :: ks, .cons e et => by
    simp only [List.map_cons, RelPs]
    refine ⟨y, ys, rfl, ?_, unkey_rel et⟩
    cases b with
    | false =>
      obtain ⟨x, rfl, rfl⟩ := (show ∃ x, y = .str x ∧ k = [x] from e)
      simp only [unkey, Bool.false_eq_true, if_false, List.headD_cons, RelP]
    | true =>
      obtain ⟨a, rfl, ha, _⟩ := (show ∃ a, y = .ref a ∧ H a = some (.tup (k.map V.str)) ∧ k ≠ [] from e)
      simp only [unkey, if_true, RelP]
      exact ⟨a, _, rfl, ha, strs_back k⟩
theorem dkeys_rel {L : Addr → Prop} : ∀ {kvs : List (P × P)} {l : List (List Key × V)} {bs : List Addr}, RelTV K L H kvs l → IsKeys H l bs → RelPs K L H (kvs.map (·.1)) (bs.map V.ref)
  | [], l, bs, h, q => by simp only [RelTV] at h; subst h; cases q; simp only [List.map_nil, RelPs]
  | (k, x) :: r, l, bs, h, q => by
    simp only [RelTV] at h
    obtain ⟨ks, v, w, rfl, hk, hx, hr⟩ := h
    cases q with
    | @cons _ b' _ bs' hb hq =>
      simp only [List.map_cons, RelPs]
      refine ⟨_, _, rfl, ?_, dkeys_rel hr hq⟩
      cases k with
      | tup xs =>
        simp only [RelP]
        refine ⟨b', _, rfl, hb, ?_⟩
        have recK : ∀ {xs : List P} {q : List Key}, keysOf xs = some q → RelPs K L H xs (q.map kV) := by
          intro xs
          induction xs with
          | nil => intro q e; cases e; simp only [List.map_nil, RelPs]
          | cons y ys ih =>
            intro q e
            unfold keysOf at e
            cases h1 : keyOf y with
            | none => rw [h1] at e; cases e
            | some k1 =>
              cases h2 : keysOf ys with
              | none => rw [h1, h2] at e; cases e
              | some ks1 =>
                rw [h1, h2] at e; cases e
                simp only [List.map_cons, RelPs]
                refine ⟨_, _, rfl, ?_, ih h2⟩
                cases y with
                | int i => cases h1; simp only [RelP]; rfl
                | str s => cases h1; simp only [RelP]; rfl
                | _ => cases h1
        exact recK hk
      | _ => cases hk
theorem l_sorted (hc : X.calm = true) : RLD X.K W oSorted (rSortX X) := by
  intro ρ A σ H ds vs Q r rd o
  unfold oSorted at o
  split at o
  · rename_i d
    obtain ⟨v, w, rfl, rv, e3⟩ := rd
    cases e3
    split at o
    · rename_i xs hx
      split at o
      · rename_i ys hy
        -- what is collected
        have hcol : ∃ Kp, ColR X H v Kp ∧ ∀ us, Kp us → RelPs X.K (Lv ρ A) H xs us := by
          unfold colP at hx
          split at hx
          · rename_i xs' hs
            cases hx
            obtain ⟨a, us, rfl, h1, h2⟩ := rd_seq r rv hs
            exact ⟨_, col_seq h1, fun us' e => by subst e; exact h2⟩
          · split at hx
            · rename_i kvs hd
              cases hx
              obtain ⟨a, rfl, h1⟩ := rd_dic r rv hd
              rcases h1 with ⟨e, _⟩ | ⟨_, l, h1, h2⟩
              · cases e
              · exact ⟨_, col_dT hc h1, fun us' ⟨bs, e, hb⟩ => by subst e; exact dkeys_rel h2 hb⟩
            · cases hx
        obtain ⟨Kp, col, hK⟩ := hcol
        have fin : ∀ b ks, keysP b xs = some ks → ys = (isort ltK ks).map (unkey b) → rSortX X [v] H Q := fun b ks hk he =>
          ⟨v, Kp, b, rfl, col, fun us hu => ⟨ks, keysP_rel (hK us hu) hk, fun zs p hz hp => by
            subst he
            have s := Step.laid r (.lst zs) hp
            exact o _ _ _ s (by simp only [RelD, RelP]; exact ⟨p, zs, rfl, r.notNone hp, upd_same, (unkey_rel hz).step r s⟩)⟩⟩
        unfold sortP at hy
        cases h1 : keysP false xs with
        | some ks => rw [h1] at hy; cases hy; exact fin false ks h1 rfl
        | none =>
          rw [h1] at hy
          simp only at hy
          cases h2 : keysP true xs with
          | some ks => rw [h2] at hy; cases hy; exact fin true ks h2 rfl
          | none => rw [h2] at hy; cases hy
      · exact o.elim
    · exact o.elim
  · exact o.elim
end
end PF

/-! text PF20 -/
set_option Elab.async false
set_option linter.all false
set_option maxRecDepth 100000
set_option maxHeartbeats 2000000
namespace PF
open PySem L2 PySem.Spec PyProof.Rows
theorem t_w {X : Cx} {e : Expr} {t : TT} (h : PW X e t) : PT X e t := h.pt
theorem un64 {k : Nat} {A : Around} (hr : Room k A) : A.units + 64 < cLine := by have := hr.un; omega
end PF

/-! text PF21 -/
set_option Elab.async false
set_option linter.all false
set_option maxRecDepth 100000
set_option maxHeartbeats 4000000
/-! PF21: sets of texts, sorted(set(..)). -/
namespace PF
open PySem L2 PySem.Spec PyProof.Rows
theorem strsAre_at : ∀ {us : List Value} {xs : List Str}, StrsAre us xs → ∀ (i : Nat) (v : Value), us[i]? = some v → ∃ t, v = .str (xs.getD i ⟨#[]⟩) t
  | _, _, .nil, i, v, h => by simp at h
  | _, _, .cons n t hr, 0, v, h => ⟨t, by simp at h; rw [← h]; rfl⟩
  | _, _, .cons n t hr, i + 1, v, h => by
    rw [List.getElem?_cons_succ] at h
    obtain ⟨t', e⟩ := strsAre_at hr i v h
    exact ⟨t', by rw [e]; rfl⟩
def keyS (e : Int × Value) : Str := match e.2 with | .str k _ => k | _ => ⟨#[]⟩
def GoodS (w : World) (e : Int × Value) : Prop := ∃ k tk, e.2 = Value.str k tk ∧ e.1 = hashStr w k

/-- the set of ints at a: S its members, n their number; its table rises and can be walked -/
def SetS (w : World) (h : Heap) (a : Addr) (S : Str → Bool) (n : Nat) : Prop :=
  ∃ o es ep t, h.get? a = some o ∧ o.ExactSet ∧ o.data = .set es ep t ∧ (∀ e ∈ es.toList, GoodS w e) ∧ (es.toList.map keyS).Nodup ∧ (∀ k, S k = true ↔ k ∈ es.toList.map keyS) ∧
    es.size < scanBound ∧ t.fits es.size = true ∧ es.size = n ∧ Ris t.place.toList ∧ (w.params.followText "set-order" = true ∨ t.led = true)

section
variable {P : Program} {w : World} {h h' : Heap} {a : Addr} {S : Str → Bool} {n : Nat}

theorem SetS.at (R : SetS w h a S n) (k : ∀ o, h.get? a = some o → h'.get? a = some o) : SetS w h' a S n := by
  obtain ⟨o, es, ep, t, ho, r⟩ := R
  exact ⟨o, es, ep, t, k o ho, r⟩
theorem SetS.lt (R : SetS w h a S n) : a < h.objs.size := by
  obtain ⟨o, es, ep, t, ho, r⟩ := R
  exact Heap.lt_size ho
theorem SetS.congr {S' : Str → Bool} (R : SetS w h a S n) (e : ∀ k, S' k = S k) : SetS w h a S' n := by
  have q : S' = S := funext e
  rw [q]; exact R
theorem goodS_elems {l : List (Int × Value)} (g : ∀ e ∈ l, GoodS w e) : ElemsOf (PySem.strKind P w) l := fun e he => by
  obtain ⟨k, tk, h1, h2⟩ := g e he
  exact ⟨⟨k, by rw [h1]; exact strKind_is P w k tk, h2⟩, by rw [h1] <;> rfl⟩
theorem goodS_is {e : Int × Value} (g : GoodS w e) (k : Str) : (PySem.strKind P w).is k e.2 = true ↔ keyS e = k := by
  obtain ⟨k0, tk, h1, _⟩ := g
  unfold keyS
  rw [h1]
  show ((k0 == k) = true) ↔ k0 = k
  exact beq_iff_eq
theorem goodS_mem {l : List (Int × Value)} (g : ∀ e ∈ l, GoodS w e) (k : Str) : k ∈ l.map keyS ↔ ∃ e ∈ l, (PySem.strKind P w).is k e.2 = true := by
  rw [List.mem_map]
  constructor
  · rintro ⟨e, he, q⟩
    exact ⟨e, he, (goodS_is (g e he) k).2 q⟩
  · rintro ⟨e, he, q⟩
    exact ⟨e, he, (goodS_is (g e he) k).1 q⟩
theorem SetS.setOf (R : SetS w h a S n) : h.SetOf (PySem.strKind P w) a S n := by
  obtain ⟨o, es, ep, t, ho, hx, hd, g, nd, hm, hb, hf, hn, _⟩ := R
  exact ⟨o, es, ep, t, ho, hx, hd, goodS_elems g, fun k => (hm k).trans (goodS_mem g k), hb, hf, hn⟩
end

section
variable {P : Program} {w : World} {A : Around} {E : Value → Shared → Prop} {s : Shared} {a : Addr} {S : Str → Bool} {n : Nat}

/-! ### add -/
theorem storeS_at {h : Heap} {a : Addr} {o : Obj} {es es' : Array (Int × Value)} {ep : Nat} {t t' : SetTable} (ho : h.get? a = some o) (hd : o.data = .set es ep t) :
    (h.update a (Obj.putSet es' t')).get? a = some { o with data := .set es' (ep + 1) t' } := by
  have q := Heap.get?_update_self (Obj.putSet es' t') ho (by rw [putSet_of es' t' hd]; rfl)
  rw [putSet_of es' t' hd] at q
  exact q

theorem setS_add_tail {g : Bool → Sem Unit} (hg : ∀ (b : Bool) (s₁ : Shared) (Q' : Unit → Shared → Prop), Q' () s₁ → wpAny (model P w) A (g b) Q' E s₁)
    {o : Obj} {es : Array (Int × Value)} {ep : Nat} {t : SetTable} (ho : s.heap.get? a = some o) (hex : o.ExactSet) (hd : o.data = .set es ep t)
    {es1 : Array (Int × Value)} {t2 : SetTable} {S' : Str → Bool} (g1 : ∀ e ∈ es1.toList, GoodS w e) (nd1 : (es1.toList.map keyS).Nodup) (m1 : ∀ k, S' k = true ↔ k ∈ es1.toList.map keyS)
    (hb1 : es1.size < scanBound) (hf2 : t2.fits es1.size = true) (hr : Ris t2.place.toList) (hl : w.params.followText "set-order" = true ∨ t2.led = true) {wasDummy : Bool} {R : Option Bool → Shared → Prop}
    (hR : ∀ h', Heap.SameBut a s.heap h' → SetS w h' a S' es1.size → R (some true) { s with heap := h' }) :
    wpAny (model P w) A (do
        storeSet a es1 t2
        if (!wasDummy && t2.tooFull) = true then do
            g (relayAll t2 es1 (SetTable.grown es1.size)).2.2
            storeSet a (relayAll t2 es1 (SetTable.grown es1.size)).1 (relayAll t2 es1 (SetTable.grown es1.size)).2.1
            pure (some true)
          else pure (some true)) R E s := by
  refine wpAny_bind (wpAny_storeSet_of ho hd ?_ (fits_of_scanBound hb1))
  have ho1 := storeS_at (es' := es1) (t' := t2) ho hd
  have sb1 := Heap.SameBut.update s.heap a (Obj.putSet es1 t2)
  split
  · have pm := relayAll_perm t2 es1 (SetTable.grown es1.size)
    have hf3 := relayAll_fits t2 es1 (SetTable.grown es1.size)
    have hr3 := relayAll_ris t2 es1 (SetTable.grown es1.size)
    have hl3 := relayAll_led t2 es1 (SetTable.grown es1.size)
    generalize relayAll t2 es1 (SetTable.grown es1.size) = Z at pm hf3 hr3 hl3 ⊢
    obtain ⟨es2, t3, gave⟩ := Z
    dsimp only at pm hf3 hr3 hl3 ⊢
    have hsz : es2.size = es1.size := by rw [← Array.length_toList, pm.length_eq, Array.length_toList]
    have hb2 : es2.size < scanBound := by rw [hsz]; exact hb1
    refine wpAny_bind (hg _ _ _ ?_)
    refine wpAny_bind (wpAny_storeSet_of ho1 rfl ?_ (fits_of_scanBound hb2))
    have ho2 := storeS_at (es' := es2) (t' := t3) ho1 rfl
    refine wpAny_pure (hR _ (sb1.trans (Heap.SameBut.update _ a _)) ?_)
    exact ⟨_, es2, _, t3, ho2, hex, rfl, fun e he => g1 e (pm.mem_iff.mp he), (pm.map keyS).nodup_iff.mpr nd1, fun k => (m1 k).trans (pm.map keyS).mem_iff.symm, hb2, hf3, hsz, hr3,
      hl.imp id fun z => by rw [hl3]; exact z⟩
  · exact wpAny_pure (hR _ sb1 ⟨_, es1, _, t2, ho1, hex, rfl, g1, nd1, m1, hb1, hf2, rfl, hr, hl⟩)

theorem setS_add_hashed {k : Str} {tk : Tok} {Q : Bool → Shared → Prop} (R : SetS w s.heap a S n) (room : n + 1 < scanBound)
    (hQ : ∀ h', Heap.SameBut a s.heap h' → SetS w h' a (fun j => S j || decide (j = k)) (if S k = true then n else n + 1) → Q (!S k) { s with heap := h' }) :
    wpAny (model P w) A (setAddHashed a (.str k tk) ((PySem.strKind P w).hash k)) Q E s := by
  obtain ⟨o, es, ep, t, ho, hex, hd, g, nd, hm, hb, hf, hn, hr, hl⟩ := R
  have hkey : (PySem.strKind P w).is k (.str k tk) = true := strKind_is P w k tk
  have hsc : (Value.str k tk).scannable = true := rfl
  have hel : ElemsOf (PySem.strKind P w) es.toList := goodS_elems g
  unfold setAddHashed setAddHashedIn
  refine wpAny_holding (wpAny_bind (wpAny_setState_of ho hd hf ?_))
  dsimp only
  rw [byScan_of hsc hb hel]
  simp only [↓reduceIte]
  unfold setAddByScan
  refine wpAny_bind ?_
  refine wpAny_bind (wpAny_rule ?_)
  refine wpAny_bind (wpAny_setScan_of hkey ho hd hf hel ?_)
  cases hfi : List.findIdx? (fun e => (PySem.strKind P w).is k e.2) es.toList with
  | some j =>
    dsimp only
    obtain ⟨hj, pj, _⟩ := List.findIdx?_eq_some_iff_getElem.mp hfi
    have hSk : S k = true := (hm k).2 ((goodS_mem (P := P) (w := w) g k).2 ⟨es.toList[j], List.getElem_mem hj, pj⟩)
    refine wpAny_pure (wpAny_pure ?_)
    have q := hQ s.heap (Heap.SameBut.refl a s.heap) ⟨o, es, ep, t, ho, hex, hd, g, nd, fun i => by
      rw [Bool.or_eq_true, decide_eq_true_eq, ← hm i]
      exact ⟨fun z => z.elim id (fun e => e ▸ hSk), .inl⟩, hb, hf, by rw [if_pos hSk]; exact hn, hr, hl⟩
    rw [hSk] at q
    exact q
  | none =>
    dsimp only
    have hnk : k ∉ es.toList.map keyS := fun z => by
      obtain ⟨e, he, q⟩ := (goodS_mem (P := P) (w := w) g k).1 z
      have c := List.findIdx?_eq_none_iff.mp hfi e he
      rw [q] at c
      cases c
    have hSk : S k = false := by
      cases q : S k with
      | false => rfl
      | true => exact absurd ((hm k).1 q) hnk
    have hgw : ∀ (b : Bool) {s₁ : Shared} {Q' : Unit → Shared → Prop}, Q' () s₁ → wpAny (model P w) A (match b with | true => rule "set.scan.the-table-gave-way" | false => pure ()) Q' E s₁ :=
      fun b s₁ Q' q => by cases b <;> first | exact wpAny_pure q | exact wpAny_rule q
    have pm := layNew_perm t es ((PySem.strKind P w).hash k) (.str k tk)
    have hf1 := layNew_fits t es ((PySem.strKind P w).hash k) (.str k tk)
    have hr1 := layNew_ris t es ((PySem.strKind P w).hash k) (.str k tk) hr
    have hl1 := layNew_led t es ((PySem.strKind P w).hash k) (.str k tk)
    generalize layNew t es ((PySem.strKind P w).hash k) (.str k tk) = Z at pm hf1 hr1 hl1 ⊢
    obtain ⟨es1, t1, wasDummy, gave⟩ := Z
    dsimp only at pm hf1 hr1 hl1 ⊢
    rw [Array.toList_push] at pm
    have pc : es1.toList.Perm (((PySem.strKind P w).hash k, Value.str k tk) :: es.toList) := pm.trans (List.perm_append_singleton _ _)
    have pk : (es1.toList.map keyS).Perm (k :: es.toList.map keyS) := pc.map keyS
    have g1 : ∀ e ∈ es1.toList, GoodS w e := fun e he => by
      rcases List.mem_cons.mp (pc.mem_iff.mp he) with z | z
      · rw [z]; exact ⟨k, tk, rfl, rfl⟩
      · exact g e z
    have nd1 : (es1.toList.map keyS).Nodup := pk.nodup_iff.mpr (List.nodup_cons.mpr ⟨hnk, nd⟩)
    have m1 : ∀ i, (S i || decide (i = k)) = true ↔ i ∈ es1.toList.map keyS := fun i => by
      rw [Bool.or_eq_true, decide_eq_true_eq, hm i, pk.mem_iff, List.mem_cons]
      exact Or.comm
    have hsz : es1.size = n + 1 := by rw [← Array.length_toList, pc.length_eq, List.length_cons, Array.length_toList, hn]
    have hb1 : es1.size < scanBound := by rw [hsz]; exact room
    have hled : w.params.followText "set-order" = true ∨ t1.led = true := hl.imp id fun z => by rw [hl1]; exact z
    have fin : ∀ h', Heap.SameBut a s.heap h' → SetS w h' a (fun j => S j || decide (j = k)) es1.size → Q true { s with heap := h' } := fun h' sb r => by
      have q := hQ h' sb
      rw [hSk] at q
      rw [hsz] at r
      exact q r
    refine wpAny_bind (hgw _ ?_)
    split
    · refine wpAny_bind ?_
      rw [hashByValue_scannable 8 hsc]
      refine wpAny_pure ?_
      refine setS_add_tail ?_ ho hex hd g1 nd1 m1 hb1 ?_ ?_ ?_ ?_
      · intro b s₁ Q' q; cases b <;> first | exact wpAny_pure q | exact wpAny_rule q
      · first | (split <;> first | exact hf1 | exact SetTable.fits_plain_off hf1) | exact hf1
      · first | (split <;> exact hr1) | exact hr1
      · first | (split <;> exact hled) | exact hled
      · intro h' sb r; dsimp only; exact wpAny_pure (fin h' sb r)
    · refine wpAny_bind (wpAny_pure ?_)
      simp only [↓reduceIte]
      refine setS_add_tail ?_ ho hex hd g1 nd1 m1 hb1 hf1 hr1 hled ?_
      · intro b s₁ Q' q; cases b <;> first | exact wpAny_pure q | exact wpAny_rule q
      · intro h' sb r; dsimp only; exact wpAny_pure (fin h' sb r)

end

theorem setS_new_at {w : World} {h : Heap} {a : Addr} {ns : List Str} (ho : h.get? a = some { cls := .type "set", dict := none, data := .set #[] 0 (.fresh 0 0 (!w.params.followText "set-order")) }) : SetS w h a (fun j => decide (j ∈ ns.take 0)) 0 :=
  ⟨_, #[], 0, _, ho, ⟨rfl, rfl, rfl⟩, rfl, (fun e he => by simp at he), (by simp), (fun k => by simp), (by decide), (by rfl), rfl, List.Pairwise.nil, by
    show _ ∨ (!w.params.followText "set-order") = true
    cases w.params.followText "set-order"
    · exact .inr rfl
    · exact .inl rfl⟩
section
variable {P : Program} {w : World} {A : Around} {E : Value → Shared → Prop} {s : Shared}
theorem set_update_strs {I : Addr} {fp wr : List Addr} {G : Array GenState → Array GenState → Prop} {n : Nat} {Pv : Nat → Value → Prop} {St : Nat → Shared → Prop} {R : Result → Shared → Prop}
    (W : WalksS P w A.in1 I fp wr G n Pv St) (S : Addr) (hSf : S ∉ fp) (ns : List Str) (hn : n = ns.length) (hb : ns.length + 1 < scanBound) (hval : ∀ i v, Pv i v → ∃ k t, ns[i]? = some k ∧ v = .str k t) :
    ∀ (k i : Nat) (s : Shared), n - i = k → i ≤ n → St i s → (∃ c, c ≤ i ∧ SetS w s.heap S (fun j => decide (j ∈ ns.take i)) c) →
      (∀ s' c, Moved (S :: wr) G s s' → c ≤ n → SetS w s'.heap S (fun j => decide (j ∈ ns)) c → R (.ok (.ret .none)) s') →
      codeAny (model P w) A (.builtin "set.update.loop" ⟨[.ref S, .ref I], []⟩) R s := by
  have hSw : S ∉ wr := fun h => hSf (W.sub _ h)
  have hsub : ∀ b ∈ wr, b ∈ S :: wr := fun b hb => List.mem_cons_of_mem _ hb
  intro k
  induction k with
  | zero =>
    intro i s hk' hi hst ⟨c, hc, hS⟩ hR
    have hin : i = n := by omega
    subst hin
    refine codeAny_builtin F.entry_set_update_loop ?_
    rw [Around.under_plainId F.plain_set_update_loop _]
    show wpAny _ A.in1 (pyNext (.ref I) >>= _) _ _ s
    refine wpAny_bind (W.done s _ _ hst fun s' hm => ?_)
    show wpAny _ A.in1 (ret Value.none) _ _ s'
    have e : ns.take i = ns := List.take_of_length_le (by omega)
    rw [e] at hS
    exact wpAny_pure (hR s' c (hm.mono hsub) hc (hS.at fun o e => hm.heap S o hSw e))
  | succ k ih =>
    intro i s hk' hi hst ⟨c, hc, hS⟩ hR
    have hlt : i < n := by omega
    refine codeAny_builtin F.entry_set_update_loop ?_
    rw [Around.under_plainId F.plain_set_update_loop _]
    show wpAny _ A.in1 (pyNext (.ref I) >>= _) _ _ s
    refine wpAny_bind (W.item i s _ _ hlt hst fun v s' hP hst' hm => ?_)
    obtain ⟨z, t, hz, rfl⟩ := hval i v hP
    have hS' : SetS w s'.heap S (fun j => decide (j ∈ ns.take i)) c := hS.at fun o e => hm.heap S o hSw e
    show wpAny _ A.in1 (holding [Value.str z t] (setAdd S (.str z t)) >>= _) _ _ s'
    refine wpAny_bind (wpAny_holding ?_)
    unfold setAdd
    refine wpAny_holding ?_
    refine wpAny_bind ((PySem.strKind P w).pyHash (k := z) (strKind_is _ _ _ _) ?_)
    refine setS_add_hashed (s := { s' with toks := s'.toks + 1 }) hS' (by omega) fun h' hsb hS2 => ?_
    have hS3 : SetS w h' S (fun j => decide (j ∈ ns.take (i + 1))) (if decide (z ∈ ns.take i) = true then c else c + 1) := hS2.congr fun j => by
      rw [List.take_add_one, hz]
      simp [List.mem_append]
    have hc3 : (if decide (z ∈ ns.take i) = true then c else c + 1) ≤ i + 1 := by
      split <;> omega
    refine wpAny_pure ⟨plainId_quiet F.plain_set_update_loop _, ih (i + 1) _ (by omega) hlt (W.frame _ s' _ _ hst' (Nat.le_succ _) fun b hb o e => ?_) ⟨_, hc3, hS3⟩ fun s'' c2 hm'' hc'' hS'' => ?_⟩
    · rw [hsb.2 b (fun h : b = S => hSf (by rw [← h]; exact hb))]; exact e
    · refine hR s'' c2 (Moved.trans W.gtrans ((hm.mono hsub).then_heap (Nat.le_succ _) fun b o hb e => ?_) hm'') hc'' hS''
      rw [hsb.2 b (fun h : b = S => hb (by rw [h]; exact List.mem_cons_self))]; exact e

set_option maxRecDepth 100000 in
set_option maxHeartbeats 3200000 in
theorem call_set_lstS {l : Addr} {items : Array Value} (ns : List Str) {Q : Value → Shared → Prop} (hh : A.handled = none) (hl : s.heap.IsList l items) (hit : StrsAre items.toList ns) (hb : ns.length + 1 < scanBound)
    (h : ∀ (h' : Heap) (tk c : Nat), SetS w h' s.heap.objs.size (fun j => decide (j ∈ ns)) c → c ≤ ns.length → (∀ b o, s.heap.get? b = some o → h'.get? b = some o) → Q (.ref s.heap.objs.size) { s with heap := h', toks := tk }) :
    wpAny (model P w) A (call (.type "set") [.ref l]) Q E s := by
  have hisz : items.size = ns.length := by
    have q := StrsAre.len_eq hit
    rw [Array.length_toList] at q
    exact q
  obtain ⟨c, tl, hmro⟩ := F.called_set.mro
  have hmade := F.called_set.made
  have hsub := F.called_set.sub
  refine wpAny_call (codeAny_of_tree ?_)
  show wpAny _ _ (callAny (.type "set") _) _ _ _
  refine wpAny_pure ⟨Code.quiet_builtin _ (by decide +kernel), codeAny_builtin F.entry_type_call ?_⟩
  rw [Around.under_plain (weight_type_call_type "set" [.ref l] []) rfl]
  have h1 := F.called_set.notType
  have h2 := F.called_set.canCreate
  have hct := F.typeCall_set_1 (.ref l)
  repeat (any_goals (first | assumption | wp_step))

  refine codeAny_mono (code_set_led1 (.ref l) (E := E) (Q₁ := fun obj s₁ => obj = .ref s.heap.objs.size ∧ s₁ = { s with heap := s.heap.push { cls := .type "set", dict := none, data := .set #[] 0 (.fresh 0 0 (!w.params.followText "set-order")) } }) ⟨rfl, rfl⟩) fun r s₁ hr => ?_
  cases r with
  | error e => exact hr
  | ok fl =>
    cases fl with
    | ret obj =>
      obtain ⟨rfl, rfl⟩ := hr
      have hS : (s.heap.push { cls := .type "set", dict := none, data := .set #[] 0 (.fresh 0 0 (!w.params.followText "set-order")) }).get? s.heap.objs.size = some { cls := .type "set", dict := none, data := .set #[] 0 (.fresh 0 0 (!w.params.followText "set-order")) } := Heap.get?_push_size _ rfl
      have hT : Shared.TypeIs { s with heap := s.heap.push { cls := .type "set", dict := none, data := .set #[] 0 (.fresh 0 0 (!w.params.followText "set-order")) } } (.ref s.heap.objs.size) "set" := ⟨_, hS, rfl⟩
      have hli := F.called_set.init.lookup
      have hbi := F.called_set.init.bind (.ref s.heap.objs.size)
      repeat (any_goals (first | assumption | wp_step))

      refine codeAny_mono (codeAny_call_builtin (R := wants (fun r s₂ => r = .none ∧ ∃ h' tk c, s₂ = { s with heap := h', toks := tk } ∧ SetS w h' s.heap.objs.size (fun j => decide (j ∈ ns)) c ∧ c ≤ ns.length ∧
          (∀ b o, s.heap.get? b = some o → h'.get? b = some o)) E) F.called_set.init.plain F.entry_set_init (check_set_init_1 hT ?_)) fun r₂ s₂ hr₂ => ?_
      · obtain ⟨ol, hol, hcl, nl, hdl⟩ := hl
        obtain ⟨ocls, odict, odata, oslots⟩ := ol
        simp only at hcl hdl
        subst hcl; subst hdl
        have hol' : (s.heap.push { cls := .type "set", dict := none, data := .set #[] 0 (.fresh 0 0 (!w.params.followText "set-order")) }).get? l = some { cls := .type "list", dict := odict, data := .seq items nl, slots := oslots } := Heap.get?_push_of_some _ hol
        have hsls := F.sub_list_set
        have hslf := F.sub_list_frozenset
        have hne : (Value.type "list" == Value.type "dict") = false := by decide
        have hl1 : (s.heap.push { cls := .type "set", dict := none, data := .set #[] 0 (.fresh 0 0 (!w.params.followText "set-order")) }).IsList l items := ⟨_, hol', rfl, nl, rfl⟩
        unfold Builtin.«set.__init__» noKeywords Builtin.Frozenset.updateFrom
        generalize hPI : pyIter = PI
        wp_walk
        subst hPI

        refine wpAny_pyIter_list hl1 ?_
        refine wpAny_bind (wpAny_runValue ?_)
        have hlS : l < s.heap.objs.size := Heap.lt_size hol
        have hh3 : A.in1.in1.in1.handled = none := by simp [hh]
        have hz1 : (s.heap.push { cls := .type "set", dict := none, data := .set #[] 0 (.fresh 0 0 (!w.params.followText "set-order")) }).objs.size = s.heap.objs.size + 1 := Heap.size_push ..
        have hneI : l ≠ (s.heap.push { cls := .type "set", dict := none, data := .set #[] 0 (.fresh 0 0 (!w.params.followText "set-order")) }).objs.size := by
          rw [Heap.size_push]; exact Nat.ne_of_lt (Nat.lt_succ_of_lt hlS)
        have hSf : s.heap.objs.size ∉ [(s.heap.push { cls := .type "set", dict := none, data := .set #[] 0 (.fresh 0 0 (!w.params.followText "set-order")) }).objs.size, l] := by
          rw [Heap.size_push]; simp only [List.mem_cons, List.mem_singleton, List.not_mem_nil, or_false, not_or]
          exact ⟨Nat.ne_of_lt (Nat.lt_succ_self _), Nat.ne_of_gt hlS⟩
        have hval : ∀ (i : Nat) (v : Value), items[i]? = some v → ∃ k t, ns[i]? = some k ∧ v = .str k t := fun i v hv => by
          have hi : i < ns.length := by rw [← hisz]; exact (Array.getElem?_eq_some_iff.mp hv).1
          obtain ⟨t, e⟩ := strsAre_at hit i v (by rw [Array.getElem?_toList]; exact hv)
          refine ⟨ns[i], t, List.getElem?_eq_getElem hi, ?_⟩
          rw [e, List.getD_eq_getElem?_getD, List.getElem?_eq_getElem hi] <;> rfl
        refine set_update_strs ((Walks.list hh3 _ l hneI items).toS) s.heap.objs.size
          hSf ns hisz hb hval (items.size - 0) 0 _ (by omega) (Nat.zero_le _)
          ⟨⟨_, Heap.get?_push_size _ rfl, rfl, rfl⟩, (hl1.push _)⟩ ?hS0 ?hR
        case hS0 =>
          have hget : ((s.heap.push { cls := .type "set", dict := none, data := .set #[] 0 (.fresh 0 0 (!w.params.followText "set-order")) }).push { cls := .type "list_iterator", data := .fields #[.ref l, .int 0 0] }).get? s.heap.objs.size
              = some { cls := .type "set", dict := none, data := .set #[] 0 (.fresh 0 0 (!w.params.followText "set-order")) } := Heap.get?_push_of_some _ hS
          exact ⟨0, Nat.le_refl 0, setS_new_at hget⟩
        case hR =>
          intro s' c' hm hc' hS'
          obtain ⟨h', g2, d', tk', os'⟩ := s'
          have eg : g2 = s.gens := hm.gens
          have ed : d' = s.drawn := hm.drawn
          have eo : os' = s.os := hm.os
          subst eg; subst ed; subst eo
          show wpAny _ _ _ _ _ _
          refine wpAny_pure ?_
          show wpAny _ _ (ret Value.none) _ _ _
          rw [hisz] at hc'
          refine wpAny_pure ⟨rfl, h', tk', c', rfl, hS', hc', fun b o e => ?_⟩
          have hb0 : b < s.heap.objs.size := Heap.lt_size e
          have hb1 : b ≠ s.heap.objs.size := Nat.ne_of_lt hb0
          have hb2 : b ≠ (s.heap.push { cls := .type "set", dict := none, data := .set #[] 0 (.fresh 0 0 (!w.params.followText "set-order")) }).objs.size := by
            rw [Heap.size_push]; exact Nat.ne_of_lt (Nat.lt_succ_of_lt hb0)
          exact hm.heap b o (by simp only [List.mem_cons, List.mem_singleton, List.not_mem_nil, or_false, not_or]; exact ⟨hb1, hb2⟩) (Heap.get?_push_of_some _ (Heap.get?_push_of_some _ e))

      · cases r₂ with
        | error e => exact hr₂
        | ok fl₂ =>
          cases fl₂ with
          | ret r =>
            obtain ⟨rfl, h', tk, c', rfl, hS', hc', hk'⟩ := hr₂
            repeat (any_goals (first | assumption | wp_step))
            exact h _ _ _ hS' hc' hk'
          | _ => exact hr₂.elim
    | _ => exact hr.elim

end

end PF

/-! text PF22 -/
set_option Elab.async false
set_option linter.all false
set_option maxRecDepth 100000
set_option maxHeartbeats 2000000
/-! PF22: sorted(set(..)) of texts. -/
namespace PF
open PySem L2 PySem.Spec PyProof.Rows
/-- the set of these texts at a -/
def SetSO (w : World) (a : Addr) (ss : List Str) : HO := .ext fun h => ∃ c, SetS w h a (fun k => decide (k ∈ ss)) c ∧ c ≤ ss.length
def rSetX (K : PySem.W.Frag) (w : World) : List V → Hp → VK → Prop := fun vs H Q => ∃ a ss, vs = [.ref a] ∧ SqL K H a (ss.map V.str) ∧ ss.length + 1 < scanBound ∧ ∀ p, H p = none → Q (.ref p) (upd H p (SetSO w p ss))
def strV : Value → Str
  | .str x _ => x
  | _ => ⟨#[]⟩
theorem vals_strV : ∀ {vs : List Value}, (∀ v ∈ vs, ∃ k tk, v = Value.str k tk) → Vals ((vs.map strV).map V.str) vs
  | [], _ => .nil
  | v :: vs, h => by
    refine .cons ?_ (vals_strV fun u hu => h u (List.mem_cons_of_mem _ hu))
    obtain ⟨k, tk, rfl⟩ := h v List.mem_cons_self
    exact ⟨tk, rfl⟩
def nubS : List Str → List Str
  | [] => []
  | x :: r => if x ∈ r then nubS r else x :: nubS r
theorem mem_nubS {x : Str} : ∀ {l : List Str}, x ∈ nubS l ↔ x ∈ l
  | [] => Iff.rfl
  | y :: r => by
    unfold nubS
    split
    · rename_i h
      rw [mem_nubS, List.mem_cons]
      exact ⟨.inr, fun q => q.elim (fun e => e ▸ h) id⟩
    · rw [List.mem_cons, List.mem_cons, mem_nubS]
theorem nodup_nubS : ∀ l : List Str, (nubS l).Nodup
  | [] => List.nodup_nil
  | y :: r => by
    unfold nubS
    split
    · exact nodup_nubS r
    · rename_i h
      exact List.nodup_cons.mpr ⟨fun q => h (mem_nubS.mp q), nodup_nubS r⟩
section
variable {X : Cx} {W : WX} {K : PySem.W.Frag} {ρ ρ' : List Addr} {A A' : AH} {H H' : Hp} {σ : St} {σD : EnvD}
theorem setSO_new {w : World} {P : Program} {H : Hp} {h : Heap} {a : Addr} {ss : List Str} {c : Nat} (R : SetS w h a (fun k => decide (k ∈ ss)) c) (hc : c ≤ ss.length) : ObjOk P w H h a (SetSO w a ss) := by
  have ⟨o, _, _, _, ho, _⟩ := R
  exact ⟨⟨c, R, hc⟩, ⟨o, ho⟩, fun h1 h2 ⟨c, p, q⟩ k => ⟨c, p.at k, q⟩⟩
theorem call_setX (hc : X.calm = true) : CallR X (.type "set") (rSetX X.K X.w) := by
  intro pins s σ H vs us Q I r h
  obtain ⟨a, ss, rfl, hl, hb, q⟩ := h
  obtain ⟨u, rfl, ru⟩ := vals1 r
  obtain rfl : u = Value.ref a := ru
  obtain ⟨its, rv, ⟨o, n, ho, hcl, _, hd⟩, hz⟩ := I.list hl
  refine call_set_lstS (items := its.toArray) ss (I.ok.hd hc) ⟨o, ho, hcl, n, by rw [hd]⟩ (by rw [List.toList_toArray]; exact rv.strs) hb fun h' tk c R hcc k => ?_
  exact ⟨.ref _, upd H _ (SetSO X.w s.heap.objs.size ss), I.laid (t' := tk) k (Nat.le_refl _) (setSO_new R hcc), rfl, q _ (I.hok.fresh (Nat.le_refl _))⟩
theorem col_set (hc : X.calm = true) {a : Addr} {ss : List Str} (h : H a = some (SetSO X.w a ss)) : ColR X H (.ref a) (fun ys => ∃ us : List Str, ys = us.map V.str ∧ us.Nodup ∧ ∀ k, k ∈ us ↔ k ∈ ss) := by
  intro pins σ s u R I ru hR
  obtain rfl : u = Value.ref a := ru
  obtain ⟨⟨c, R0, hcl⟩, _⟩ := I.hok a _ h
  obtain ⟨o, es, ep, t, ho, hex, hd, g, nd, hm, hb, hf, hn, hr, hl⟩ := R0
  refine collect_set (A := X.A.in1) (I.ok.hd hc) ⟨o, ho, hex.1, hd⟩ hf hb hr hl fun s1 vs k1 hz g1 o1 pm => ?_
  have e : s1 = { s with heap := s1.heap, drawn := s1.drawn, toks := s1.toks } := by
    cases s1
    cases s
    cases o1
    cases g1
    rfl
  rw [e]
  have hv : ∀ v ∈ vs, ∃ k tk, v = Value.str k tk := fun v hv => by
    obtain ⟨e, he, q⟩ := List.mem_map.mp (pm.mem_iff.mp hv)
    obtain ⟨k, tk, h1, _⟩ := g e he
    exact ⟨k, tk, by rw [← q]; exact h1⟩
  have pk : (vs.map strV).Perm (es.toList.map keyS) := by
    have q := pm.map strV
    rw [List.map_map] at q
    exact q
  refine hR s1.heap s1.drawn s1.toks vs ((vs.map strV).map V.str) k1 (vals_strV hv) ?_ ⟨_, rfl, pk.nodup_iff.mpr nd, fun k => ?_⟩
  · rw [pm.length_eq, List.length_map, Array.length_toList]
    exact fits_of_scanBound hb
  · rw [pk.mem_iff, ← hm k, decide_eq_true_eq]

def oSortSet : BL := fun ds A => match ds with
  | [d] => match lstOf d A with
    | some xs => match strsP xs with
      | some ss => if ss.length + 1 < scanBound then some (.val (.p (.lst ((isort ltK ((nubS ss).map fun s => [s])).map (unkey false)))) A) else none
      | none => none
    | none => none
  | _ => none
theorem el_strs : ∀ us : List Str, Paired (ElK H false) (us.map V.str) (us.map fun s => [s])
  | [] => .nil
  | u :: us => .cons ⟨u, rfl, rfl⟩ (el_strs us)
theorem sort_same {us vs : List Str} (h1 : us.Nodup) (h2 : vs.Nodup) (h : ∀ k, k ∈ us ↔ k ∈ vs) : isort ltK (us.map fun s => [s]) = isort ltK (vs.map fun s => [s]) :=
  sd_uniq ltK_ord (isort_sd ltK_ord _) (isort_sd ltK_ord _) ((isort_perm ltK _).trans ((((List.perm_ext_iff_of_nodup h1 h2).mpr h).map _).trans (isort_perm ltK _).symm))
/-- sorted(set(e)) -/
theorem e_sortSet {a : BA} {e : Expr} {es : List Expr} {p1 p2 q1 q2 : Pos} (hc : X.calm = true) (hu : X.A.units + 65 < cLine) (hg1 : Gl X "sorted") (hm1 : X.mg "sorted" = none) (hv1 : bootBuiltins "sorted" = some (.builtin "sorted"))
    (hg2 : Gl X "set") (hm2 : X.mg "set" = none) (hv2 : bootBuiltins "set" = some (.type "set")) (ha : PA X (e :: es) (tA X.K W a))
    (he : starEach (e :: es) X.env = (false, eval e X.env) :: starEach es X.env := by rfl) (hpl : (backTo q2 (starEach es X.env)).any (·.1) = false := by rfl) :
    PE X (.Call (.Name "sorted" p1) [.Call (.Name "set" p2) (e :: es) [] q2] [] q1) (tE X.K W (bCB oSortSet a)) := by
  refine (pe_callB (call_sortedX hc hu) hg1 hm1 hv1 (pa_cons (pe_callTy (call_setX hc) hg2 hm2 hv2 ha (by decide) (by decide) he hpl) pa_nil (by rfl)) (by decide) (by decide) (by rfl) (by rfl)).imp fun σ H Q h => ?_
  refine tG.mono (tG.bind (f := a) h) fun vs H1 ⟨ρ1, A1, σD, ds, r1, e1, rd, o⟩ => ?_
  unfold oSortSet at o
  split at o
  · rename_i d
    obtain ⟨v, w, rfl, rv, e3⟩ := rd
    cases e3
    split at o
    · rename_i xs hx
      split at o
      · rename_i ss hs
        split at o
        · rename_i hb
          obtain ⟨l, us, rfl, h1, h2⟩ := rd_lst r1 rv hx
          obtain ⟨h3, _⟩ := strsP_rel h2 hs
          subst h3
          refine ⟨l, ss, rfl, SqL.of h1, hb, fun p hp => ?_⟩
          refine ⟨.ref p, _, false, rfl, col_set hc upd_same, fun xs' ⟨us', e', nd, hm⟩ => ⟨us'.map fun s => [s], by rw [e']; exact el_strs us', fun ys q hy hq => ?_⟩⟩
          rw [sort_same nd (nodup_nubS ss) fun k => (hm k).trans mem_nubS.symm] at hy
          have s1 := Step.laid r1 (SetSO X.w p ss) hp
          have s2 := Step.laid s1.rep (.lst ys) hq
          exact o _ _ _ (s1.trans s2) (by simp only [RelD, RelP]; exact ⟨q, ys, rfl, s1.rep.notNone hq, upd_same, (unkey_rel hy).step s1.rep s2⟩)
        · exact o.elim
      · exact o.elim
    · exact o.elim
  · exact o.elim
end
end PF

/-! text PF23 -/
set_option Elab.async false
set_option linter.all false
set_option maxRecDepth 100000
set_option maxHeartbeats 2000000
/-! PF23: zip of two tuples whose last pair is kept by another: list(zip(..)). -/
namespace PF
open PySem L2 PySem.Spec PyProof.Rows
/-- a zip whose last pair is t, which lives -/
abbrev IsZb (h : Heap) (z TI TO t : Addr) (b : Bool) : Prop :=
  h.get? z = some { cls := .type "zip", dict := none, data := .fields #[rawInt t, .bool b, .bool false, .ref TI, .ref TO], slots := #[] }
section
variable {prog : Program} {w : World} {A : Around} {E : Value → Shared → Prop} {s : Shared}
theorem wpAny_alive {a : Addr} {o : Obj} {Q : Option Obj → Shared → Prop} (ho : s.heap.get? a = some o) (h : Q (some o) s) : wpAny (model prog w) A (loadIfAlive a) Q E s := fun Γ p hΓ => by
  unfold loadIfAlive
  rw [Sem.wp_loadIfAlive, ho]
  exact h
theorem owned_busy {z TI TO t : Addr} {b : Bool} {o : Obj} {Q : Bool → Shared → Prop} (hz : IsZb s.heap z TI TO t b) (ht : s.heap.get? t = some o)
    (hQ : ∀ h', IsZb h' z TI TO t true → Heap.SameBut z s.heap h' → Q false { s with heap := h' }) : wpAny (model prog w) A (Builtin.SmallTypes.ownedTupleIsFree (.ref z)) Q E s := by
  unfold Builtin.SmallTypes.ownedTupleIsFree
  refine wpAny_bind (wpAny_field hz rfl (x := rawInt t) rfl ?_)
  show wpAny _ _ (loadIfAlive ((t : Int).toNat) >>= _) _ _ _
  rw [Int.toNat_natCast]
  refine wpAny_bind (wpAny_alive ht ?_)
  show wpAny _ _ (field (.ref z) 1 >>= _) _ _ _
  refine wpAny_bind (wpAny_field hz rfl (x := .bool b) rfl ?_)
  cases b with
  | true => exact wpAny_pure (hQ s.heap hz (Heap.SameBut.refl _ _))
  | false => exact wpAny_bind (wpAny_setField_rec hz (by simp) fun h' hz' hs' => wpAny_pure (hQ h' hz' hs'))
theorem busy_item {z TI TO t i1 i2 l1 l2 : Addr} {b : Bool} {o : Obj} {k1 k2 : Nat} {xs ys : Array Value} {x y : Value} {Q : Value → Shared → Prop} (D : ZipApart z TI TO i1 i2 l1 l2)
    (hz : IsZb s.heap z TI TO t b) (ht : s.heap.get? t = some o) (hTI : IsPair s.heap TI (.ref i1) (.ref i2))
    (h1 : s.heap.IsTupleIter i1 l1 k1) (h2 : s.heap.IsTupleIter i2 l2 k2) (hl1 : s.heap.IsTuple l1 xs) (hl2 : s.heap.IsTuple l2 ys) (hx : xs[k1]? = some x) (hy : ys[k2]? = some y)
    (hQ : ∀ h', IsZb h' z TI TO t true → h'.IsTupleIter i1 l1 (k1 + 1) → h'.IsTupleIter i2 l2 (k2 + 1) → IsPair h' s.heap.objs.size x y →
      (∀ c o, c ≠ z → c ≠ i1 → c ≠ i2 → s.heap.get? c = some o → h'.get? c = some o) → Q (.ref s.heap.objs.size) { s with heap := h' }) :
    wpAny (model prog w) A (Builtin.«zip.__next__» ⟨[.ref z], []⟩) (fun fin s' => ∃ v, fin = .done (.ret v) ∧ Q v s') E s := by
  show wpAny _ _ (field (.ref z) 2 >>= _) _ _ _
  refine wpAny_bind (wpAny_field hz rfl (x := .bool false) rfl ?_)
  show wpAny _ _ (field (.ref z) 3 >>= _) _ _ _
  refine wpAny_bind (wpAny_field hz rfl (x := .ref TI) rfl ?_)
  refine wpAny_bind (wpAny_seqItems hTI rfl ?_)
  show wpAny _ _ (Builtin.SmallTypes.ownedTupleIsFree (.ref z) >>= _) _ _ _
  refine wpAny_bind (owned_busy hz ht fun h₁ hz₁ hs₁ => ?_)
  simp only [Bool.false_eq_true, if_false, List.forIn_toArray, List.forIn_cons, List.forIn_nil]
  refine wpAny_bind (wpAny_bind ?_)
  refine wpAny_bind (wpAny_holding ?_)
  show wpAny _ _ (Builtin.SmallTypes.nextOf (.ref i1) >>= _) _ _ _
  refine wpAny_bind (RZ.nextOf_tuple_item (h1.extBut hs₁.extBut D.i1z) (hl1.extBut hs₁.extBut D.l1z) hx fun h₂ h1₂ hs₂ => wpAny_pure ?_)
  refine wpAny_pure ?_
  refine wpAny_bind (wpAny_bind (wpAny_holding ?_))
  show wpAny _ _ (Builtin.SmallTypes.nextOf (.ref i2) >>= _) _ _ _
  refine wpAny_bind (RZ.nextOf_tuple_item ((h2.extBut hs₁.extBut D.i2z).extBut hs₂.extBut D.i12.symm) ((hl2.extBut hs₁.extBut D.l2z).extBut hs₂.extBut D.l2i1) hy fun h₃ h2₃ hs₃ => wpAny_pure ?_)
  refine wpAny_pure (wpAny_pure ?_)
  refine wpAny_bind (wpAny_newTuple (hsz := by show 2 ≤ sizeLine; decide) ?_)
  have hsz : h₃.objs.size = s.heap.objs.size := by rw [hs₃.1, hs₂.1, hs₁.1]
  have hz₃ : IsZb h₃ z TI TO t true := hs₃.extBut _ _ D.i2z.symm (hs₂.extBut _ _ D.i1z.symm hz₁)
  have up : ∀ c u, h₃.get? c = some u → (h₃.push { cls := .type "tuple", data := .seq #[x, y] }).get? c = some u := fun c u e => Heap.get?_push_of_some _ e
  refine wpAny_pure ⟨_, rfl, ?_⟩
  have hT : IsPair (h₃.push { cls := .type "tuple", data := .seq #[x, y] }) h₃.objs.size x y := Heap.get?_push_size _ rfl
  show Q (.ref h₃.objs.size) _
  rw [hsz] at hT ⊢
  refine hQ _ (up _ _ hz₃) ((h1₂.extBut hs₃.extBut D.i12).at fun u e => up _ u e) (h2₃.at fun u e => up _ u e) hT fun c u c1 c2 c3 e => up c u (hs₃.extBut _ _ c3 (hs₂.extBut _ _ c2 (hs₁.extBut _ _ c1 e)))
theorem busy_end {z TI TO t i1 i2 l1 l2 : Addr} {b : Bool} {o : Obj} {k1 k2 : Nat} {xs ys : Array Value} {Q : Fin → Shared → Prop} (hh : A.handled = none) (D : ZipApart z TI TO i1 i2 l1 l2)
    (hz : IsZb s.heap z TI TO t b) (ht : s.heap.get? t = some o) (hTI : IsPair s.heap TI (.ref i1) (.ref i2))
    (h1 : s.heap.IsTupleIter i1 l1 k1) (h2 : s.heap.IsTupleIter i2 l2 k2) (hl1 : s.heap.IsTuple l1 xs) (hl2 : s.heap.IsTuple l2 ys) (hend : xs[k1]? = none ∨ ys[k2]? = none)
    (hE : ∀ h' e, (∀ c o, c ≠ z → c ≠ i1 → c ≠ i2 → s.heap.get? c = some o → h'.get? c = some o) → (∃ o, h'.get? e = some o ∧ o.cls = .type "StopIteration") → E (.ref e) { s with heap := h' }) :
    wpAny (model prog w) A (Builtin.«zip.__next__» ⟨[.ref z], []⟩) Q E s := by
  show wpAny _ _ (field (.ref z) 2 >>= _) _ _ _
  refine wpAny_bind (wpAny_field hz rfl (x := .bool false) rfl ?_)
  show wpAny _ _ (field (.ref z) 3 >>= _) _ _ _
  refine wpAny_bind (wpAny_field hz rfl (x := .ref TI) rfl ?_)
  refine wpAny_bind (wpAny_seqItems hTI rfl ?_)
  show wpAny _ _ (Builtin.SmallTypes.ownedTupleIsFree (.ref z) >>= _) _ _ _
  refine wpAny_bind (owned_busy hz ht fun h₁ hz₁ hs₁ => ?_)
  simp only [Bool.false_eq_true, if_false, List.forIn_toArray, List.forIn_cons, List.forIn_nil]
  refine wpAny_bind (wpAny_bind ?_)
  refine wpAny_bind (wpAny_holding ?_)
  show wpAny _ _ (Builtin.SmallTypes.nextOf (.ref i1) >>= _) _ _ _
  cases hx : xs[k1]? with
  | none =>
    refine wpAny_bind (RZ.nextOf_tuple_end hh (h1.extBut hs₁.extBut D.i1z) (hl1.extBut hs₁.extBut D.l1z) hx fun h₂ e hs₂ he => ?_)
    exact hE h₂ e (fun c u c1 c2 c3 x => hs₂ _ _ c2 (hs₁.extBut _ _ c1 x)) he
  | some x =>
    have hy : ys[k2]? = none := by rcases hend with h | h; rw [hx] at h; cases h; exact h
    refine wpAny_bind (RZ.nextOf_tuple_item (h1.extBut hs₁.extBut D.i1z) (hl1.extBut hs₁.extBut D.l1z) hx fun h₂ h1₂ hs₂ => wpAny_pure ?_)
    refine wpAny_pure ?_
    refine wpAny_bind (wpAny_bind (wpAny_holding ?_))
    show wpAny _ _ (Builtin.SmallTypes.nextOf (.ref i2) >>= _) _ _ _
    refine wpAny_bind (RZ.nextOf_tuple_end hh ((h2.extBut hs₁.extBut D.i2z).extBut hs₂.extBut D.i12.symm) ((hl2.extBut hs₁.extBut D.l2z).extBut hs₂.extBut D.l2i1) hy fun h₃ e hs₃ he => ?_)
    exact hE h₃ e (fun c u c1 c2 c3 x => hs₃ _ _ c3 (hs₂.extBut _ _ c2 (hs₁.extBut _ _ c1 x))) he
theorem next_busy_item {z TI TO t i1 i2 l1 l2 : Addr} {b : Bool} {o : Obj} {k1 k2 : Nat} {xs ys : Array Value} {x y : Value} {Q : Option Value → Shared → Prop} (D : ZipApart z TI TO i1 i2 l1 l2)
    (hz : IsZb s.heap z TI TO t b) (ht : s.heap.get? t = some o) (hTI : IsPair s.heap TI (.ref i1) (.ref i2))
    (h1 : s.heap.IsTupleIter i1 l1 k1) (h2 : s.heap.IsTupleIter i2 l2 k2) (hl1 : s.heap.IsTuple l1 xs) (hl2 : s.heap.IsTuple l2 ys) (hx : xs[k1]? = some x) (hy : ys[k2]? = some y)
    (hQ : ∀ h', IsZb h' z TI TO t true → h'.IsTupleIter i1 l1 (k1 + 1) → h'.IsTupleIter i2 l2 (k2 + 1) → IsPair h' s.heap.objs.size x y →
      (∀ c o, c ≠ z → c ≠ i1 → c ≠ i2 → s.heap.get? c = some o → h'.get? c = some o) → Q (some (.ref s.heap.objs.size)) { s with heap := h' }) :
    wpAny (model prog w) A (pyNext (.ref z)) Q E s := by
  have hT : s.TypeIs (.ref z) "zip" := ⟨_, hz, rfl⟩
  unfold pyNext
  exact wpAny_bind (wpAny_attempt (wpAny_callSpecial?_slot (name := Str.ofString "__next__") hT PySem.F.slot_zip_next
    (wpAny_call_entry PySem.F.slot_zip_next hT PySem.F.entry_zip_next
      (busy_item D hz ht hTI h1 h2 hl1 hl2 hx hy fun h' a1 a2 a3 a4 a5 => wpAny_pure (hQ h' a1 a2 a3 a4 a5)) (PySem.F.args_zip_next_1 _))))
theorem next_busy_end {z TI TO t i1 i2 l1 l2 : Addr} {b : Bool} {o : Obj} {k1 k2 : Nat} {xs ys : Array Value} {Q : Option Value → Shared → Prop} (hh : A.handled = none) (D : ZipApart z TI TO i1 i2 l1 l2)
    (hz : IsZb s.heap z TI TO t b) (ht : s.heap.get? t = some o) (hTI : IsPair s.heap TI (.ref i1) (.ref i2))
    (h1 : s.heap.IsTupleIter i1 l1 k1) (h2 : s.heap.IsTupleIter i2 l2 k2) (hl1 : s.heap.IsTuple l1 xs) (hl2 : s.heap.IsTuple l2 ys) (hend : xs[k1]? = none ∨ ys[k2]? = none)
    (hQ : ∀ h', (∀ c o, c ≠ z → c ≠ i1 → c ≠ i2 → s.heap.get? c = some o → h'.get? c = some o) → Q none { s with heap := h' }) : wpAny (model prog w) A (pyNext (.ref z)) Q E s := by
  have hT : s.TypeIs (.ref z) "zip" := ⟨_, hz, rfl⟩
  unfold pyNext
  refine wpAny_bind (wpAny_attempt (wpAny_callSpecial?_slot (name := Str.ofString "__next__") hT PySem.F.slot_zip_next
    (wpAny_call_entry PySem.F.slot_zip_next hT PySem.F.entry_zip_next (busy_end hh D hz ht hTI h1 h2 hl1 hl2 hend fun h' e hk he => ?_) (PySem.F.args_zip_next_1 _))))
  obtain ⟨o, ho, hc⟩ := he
  refine wpAny_bind (wpAny_isInstance (T := "StopIteration") (b := true) ⟨o, ho, hc⟩ isSubtype_stop ?_)
  exact wpAny_pure (hQ _ hk)
end
/-! ### list(zip(a, b)), a and b tuples -/
/-- the pairs that stand in the list -/
def Prs (m : Nat) (h : Heap) (xs ys acc : Array Value) : Prop := ∀ (j : Nat) (v : Value), acc[j]? = some v → ∃ T x y, v = .ref T ∧ m ≤ T ∧ xs[j]? = some x ∧ ys[j]? = some y ∧ IsPair h T x y
/-- the zip before its turn i -/
def ZSt (z TI TO i1 i2 l1 l2 : Addr) (xs ys : Array Value) (h : Heap) (i : Nat) : Prop :=
  IsPair h TI (.ref i1) (.ref i2) ∧ h.IsTupleIter i1 l1 i ∧ h.IsTupleIter i2 l2 i ∧ h.IsTuple l1 xs ∧ h.IsTuple l2 ys ∧ ((IsZip h z TI TO .none ∧ ∃ a b, IsPair h TO a b) ∨ ∃ t b o, IsZb h z TI TO t b ∧ h.get? t = some o)
theorem isTuple_keep {h h' : Heap} {l : Addr} {xs : Array Value} (p : h.IsTuple l xs) (k : ∀ u, h.get? l = some u → h'.get? l = some u) : h'.IsTuple l xs := by
  obtain ⟨o, ho, r⟩ := p
  exact ⟨o, k o ho, r⟩
theorem ZSt.keep {z TI TO i1 i2 l1 l2 S : Addr} {xs ys : Array Value} {h h' : Heap} {i : Nat} (st : ZSt z TI TO i1 i2 l1 l2 xs ys h i) (hS : S ∉ [z, TI, TO, i1, i2, l1, l2]) (ht : ∀ t b o, IsZb h z TI TO t b → h.get? t = some o → ∃ o', h'.get? t = some o')
    (k : ∀ b u, b ≠ S → h.get? b = some u → h'.get? b = some u) : ZSt z TI TO i1 i2 l1 l2 xs ys h' i := by
  obtain ⟨a1, a2, a3, a4, a5, a6⟩ := st
  have ne : ∀ c, c ∈ [z, TI, TO, i1, i2, l1, l2] → c ≠ S := fun c hc e => hS (e ▸ hc)
  refine ⟨k TI _ (ne _ (by simp)) a1, a2.at fun u e => k _ u (ne _ (by simp)) e, a3.at fun u e => k _ u (ne _ (by simp)) e, isTuple_keep a4 fun u e => k _ u (ne _ (by simp)) e, isTuple_keep a5 fun u e => k _ u (ne _ (by simp)) e, ?_⟩
  rcases a6 with ⟨b1, a, b, b2⟩ | ⟨t, b, o, b1, b2⟩
  · exact .inl ⟨k z _ (ne _ (by simp)) b1, a, b, k TO _ (ne _ (by simp)) b2⟩
  · obtain ⟨o', e⟩ := ht t b o b1 b2
    exact .inr ⟨t, b, o', k z _ (ne _ (by simp)) b1, e⟩
section
variable {prog : Program} {w : World} {A : Around} {z TI TO i1 i2 l1 l2 S : Addr} {xs ys : Array Value} {m n : Nat}
/-- one turn -/
theorem zst_item {E : Value → Shared → Prop} {s : Shared} {i : Nat} {x y : Value} {Q : Option Value → Shared → Prop} (D : ZipApart z TI TO i1 i2 l1 l2) (hm : ∀ c ∈ [z, TI, TO, i1, i2, l1, l2], c < s.heap.objs.size)
    (st : ZSt z TI TO i1 i2 l1 l2 xs ys s.heap i) (hx : xs[i]? = some x) (hy : ys[i]? = some y)
    (hQ : ∀ h', ZSt z TI TO i1 i2 l1 l2 xs ys h' (i + 1) → IsPair h' s.heap.objs.size x y → (∀ c o, c ∉ [z, TO, i1, i2] → s.heap.get? c = some o → h'.get? c = some o) → Q (some (.ref s.heap.objs.size)) { s with heap := h' }) :
    wpAny (model prog w) A (pyNext (.ref z)) Q E s := by
  obtain ⟨a1, a2, a3, a4, a5, a6⟩ := st
  have fin : ∀ h', h'.IsTupleIter i1 l1 (i + 1) → h'.IsTupleIter i2 l2 (i + 1) → IsPair h' s.heap.objs.size x y → (∀ c o, c ∉ [z, TO, i1, i2] → s.heap.get? c = some o → h'.get? c = some o) →
      (∃ t b o, IsZb h' z TI TO t b ∧ h'.get? t = some o) → Q (some (.ref s.heap.objs.size)) { s with heap := h' } := fun h' b1 b2 b3 kp b4 => by
    refine hQ h' ⟨kp TI _ ?_ a1, b1, b2, isTuple_keep a4 fun u e => kp _ u ?_ e, isTuple_keep a5 fun u e => kp _ u ?_ e, .inr b4⟩ b3 kp
    · simp only [List.mem_cons, List.not_mem_nil, or_false, not_or]
      exact ⟨D.TIz, D.TITO, D.TIi1, D.TIi2⟩
    · simp only [List.mem_cons, List.not_mem_nil, or_false, not_or]
      exact ⟨D.l1z, D.l1TO, D.l1i1, D.l1i2⟩
    · simp only [List.mem_cons, List.not_mem_nil, or_false, not_or]
      exact ⟨D.l2z, D.l2TO, D.l2i1, D.l2i2⟩
  rcases a6 with ⟨hz, a, b, hTO⟩ | ⟨t, b, o, hz, ht⟩
  · refine RZ.pyNext_zipT_item D hz a1 hTO a2 a3 a4 a5 hx hy fun h' z' TO' h1' h2' hT hsz hk => ?_
    refine fin h' h1' h2' hT (fun c o hc e => ?_) ⟨s.heap.objs.size, false, _, z', hT⟩
    simp only [List.mem_cons, List.not_mem_nil, or_false, not_or] at hc
    exact hk c o hc.1 hc.2.1 hc.2.2.1 hc.2.2.2 e
  · refine next_busy_item D hz ht a1 a2 a3 a4 a5 hx hy fun h' z' h1' h2' hT hk => ?_
    have hk' : ∀ c o, c ∉ [z, TO, i1, i2] → s.heap.get? c = some o → h'.get? c = some o := fun c o hc e => by
      simp only [List.mem_cons, List.not_mem_nil, or_false, not_or] at hc
      exact hk c o hc.1 hc.2.2.1 hc.2.2.2 e
    refine fin h' h1' h2' hT hk' ?_
    by_cases e1 : t = z
    · exact ⟨t, true, _, z', by rw [e1]; exact z'⟩
    · by_cases e2 : t = i1
      · obtain ⟨u, hu, _⟩ := h1'
        exact ⟨t, true, u, z', by rw [e2]; exact hu⟩
      · by_cases e3 : t = i2
        · obtain ⟨u, hu, _⟩ := h2'
          exact ⟨t, true, u, z', by rw [e3]; exact hu⟩
        · exact ⟨t, true, o, z', hk t o e1 e2 e3 ht⟩
theorem zst_end {E : Value → Shared → Prop} {s : Shared} {i : Nat} {Q : Option Value → Shared → Prop} (hh : A.handled = none) (D : ZipApart z TI TO i1 i2 l1 l2)
    (st : ZSt z TI TO i1 i2 l1 l2 xs ys s.heap i) (hend : xs[i]? = none ∨ ys[i]? = none)
    (hQ : ∀ h', (∀ c o, c ∉ [z, TO, i1, i2] → s.heap.get? c = some o → h'.get? c = some o) → Q none { s with heap := h' }) :
    wpAny (model prog w) A (pyNext (.ref z)) Q E s := by
  obtain ⟨a1, a2, a3, a4, a5, a6⟩ := st
  rcases a6 with ⟨hz, a, b, hTO⟩ | ⟨t, b, o, hz, ht⟩
  · refine RZ.pyNext_zipT_end hh D hz a1 hTO a2 a3 a4 a5 hend fun h' hk => hQ h' fun c o hc e => ?_
    simp only [List.mem_cons, List.not_mem_nil, or_false, not_or] at hc
    exact hk c o hc.1 hc.2.1 hc.2.2.1 hc.2.2.2 e
  · refine next_busy_end hh D hz ht a1 a2 a3 a4 a5 hend fun h' hk => hQ h' fun c o hc e => ?_
    simp only [List.mem_cons, List.not_mem_nil, or_false, not_or] at hc
    exact hk c o hc.1 hc.2.2.1 hc.2.2.2 e
theorem extend_zip (hh : A.handled = none) (D : ZipApart z TI TO i1 i2 l1 l2) (hS : S ∉ [z, TI, TO, i1, i2, l1, l2]) (hSm : S < m) (hm : ∀ c ∈ [z, TI, TO, i1, i2, l1, l2], c < m) (hn : n = min xs.size ys.size) (hsz : n ≤ sizeLine) (res : Value) {R : Result → Shared → Prop} :
    ∀ (k i : Nat) (s : Shared) (acc : Array Value) (c : Nat), n - i = k → i ≤ n → m ≤ s.heap.objs.size → ZSt z TI TO i1 i2 l1 l2 xs ys s.heap i → s.heap.get? S = some { cls := .type "list", dict := none, data := .seq acc c, slots := #[] } → acc.size = i → Prs m s.heap xs ys acc → acc.toList.Nodup →
    (∀ h' acc' c', (∀ b u, b ∉ [S, z, TO, i1, i2] → s.heap.get? b = some u → h'.get? b = some u) → h'.get? S = some { cls := .type "list", dict := none, data := .seq acc' c', slots := #[] } → acc'.size = n → Prs m h' xs ys acc' → acc'.toList.Nodup → R (.ok (.ret res)) { s with heap := h' }) →
    codeAny (model prog w) A (.builtin "list.extend.loop" ⟨[.ref S, .ref z, res], []⟩) R s := by
  have hS4 : S ∉ [z, TO, i1, i2] := fun h => hS (by simp only [List.mem_cons, List.not_mem_nil, or_false] at h ⊢; rcases h with h | h | h | h <;> simp [h])
  have low : ∀ b, m ≤ b → b ∉ [S, z, TO, i1, i2] := fun b hb h => by
    simp only [List.mem_cons, List.not_mem_nil, or_false] at h
    rcases h with h | h | h | h | h <;> rw [h] at hb
    · exact absurd hb (Nat.not_le_of_lt hSm)
    · exact absurd hb (Nat.not_le_of_lt (hm _ (by simp)))
    · exact absurd hb (Nat.not_le_of_lt (hm _ (by simp)))
    · exact absurd hb (Nat.not_le_of_lt (hm _ (by simp)))
    · exact absurd hb (Nat.not_le_of_lt (hm _ (by simp)))
  have low4 : ∀ b, m ≤ b → b ∉ [z, TO, i1, i2] := fun b hb h => low b hb (List.mem_cons_of_mem _ h)
  intro k
  induction k with
  | zero =>
    intro i s acc c hk hi hms hst hS' hacc hp hnd hR
    have hin : i = n := by omega
    subst hin
    refine codeAny_builtin PySem.F.entry_extend_loop ?_
    rw [Around.under_plainId PySem.F.plain_extend_loop _]
    show wpAny _ A.in1 (pyNext (.ref z) >>= _) _ _ s
    have hend : xs[i]? = none ∨ ys[i]? = none := by
      rcases Nat.le_total xs.size ys.size with h | h
      · exact .inl (Array.getElem?_eq_none (by omega))
      · exact .inr (Array.getElem?_eq_none (by omega))
    refine wpAny_bind (zst_end (A := A.in1) hh D hst hend fun h' hk' => ?_)
    exact wpAny_pure (hR h' acc c (fun b u hb e => hk' b u (fun h => hb (List.mem_cons_of_mem _ h)) e) (hk' S _ hS4 hS') hacc (fun j v hj => by
      obtain ⟨T, x, y, e1, e2, e3, e4, e5⟩ := hp j v hj
      exact ⟨T, x, y, e1, e2, e3, e4, hk' T _ (low4 T e2) e5⟩) hnd)
  | succ k ih =>
    intro i s acc c hk hi hms hst hS' hacc hp hnd hR
    have hlt : i < n := by omega
    refine codeAny_builtin PySem.F.entry_extend_loop ?_
    rw [Around.under_plainId PySem.F.plain_extend_loop _]
    show wpAny _ A.in1 (pyNext (.ref z) >>= _) _ _ s
    have hx : xs[i]? = some xs[i] := Array.getElem?_eq_getElem (by omega)
    have hy : ys[i]? = some ys[i] := Array.getElem?_eq_getElem (by omega)
    refine wpAny_bind (zst_item (A := A.in1) D (fun c hc => Nat.lt_of_lt_of_le (hm c hc) hms) hst hx hy fun h' st' hT hk' => ?_)
    have hS2 := hk' S _ hS4 hS'
    have hlt2 : s.heap.objs.size < h'.objs.size := Heap.lt_size hT
    show wpAny _ A.in1 (updateSeq S (·.push (.ref s.heap.objs.size)) >>= _) _ _ _
    refine wpAny_bind ?_
    refine wpAny_updateSeq hS2 rfl (wpAny_pure ⟨plainId_quiet PySem.F.plain_extend_loop _, ih (i + 1) _ (acc.push (.ref s.heap.objs.size)) _ (by omega) hlt ?_ (st'.keep hS (fun t b o _ ht => ?_) fun b u hb e => ?_) (Heap.get?_update_self _ hS2 rfl) (by rw [Array.size_push, hacc]) (fun j v hj => ?_) ?_ fun h'' acc' c' hk'' hS'' hn' hp' hnd' => ?_⟩) (by rw [hacc]; omega) (by show (acc.push _).size ≤ sizeLine + 1; rw [Array.size_push, hacc]; omega)
    · show m ≤ (h'.update S _).objs.size
      rw [(Heap.SameBut.update h' S _).1]
      omega
    · by_cases e : t = S
      · exact ⟨_, by rw [e]; exact Heap.get?_update_self _ hS2 rfl⟩
      · exact ⟨o, (Heap.get?_update_other _ _ (Ne.symm e)).trans ht⟩
    · exact (Heap.get?_update_other _ _ (Ne.symm hb)).trans e
    · have up : ∀ T a b, m ≤ T → IsPair h' T a b → IsPair (h'.update S (Obj.mapSeq (·.push (.ref s.heap.objs.size)))) T a b := fun T a b hb e => (Heap.get?_update_other _ _ (Nat.ne_of_lt (Nat.lt_of_lt_of_le hSm hb))).trans e
      rw [Array.getElem?_push] at hj
      split at hj
      · rename_i ej
        cases hj
        rw [hacc] at ej
        subst ej
        exact ⟨_, _, _, rfl, hms, hx, hy, up _ _ _ hms hT⟩
      · obtain ⟨T, x, y, e1, e2, e3, e4, e5⟩ := hp j v hj
        exact ⟨T, x, y, e1, e2, e3, e4, up _ _ _ e2 (hk' T _ (low4 T e2) e5)⟩
    · rw [Array.toList_push]
      refine List.nodup_append.mpr ⟨hnd, by simp, fun a ha b hb e => ?_⟩
      rw [List.mem_singleton] at hb
      obtain ⟨j, hj, ej⟩ := List.getElem_of_mem ha
      obtain ⟨T, x, y, e1, _, _, _, e5⟩ := hp j a (by rw [← Array.getElem?_toList, List.getElem?_eq_getElem hj, ej])
      rw [e1, hb] at e
      cases e
      exact Nat.lt_irrefl _ (Heap.lt_size e5)
    · refine hR h'' acc' c' (fun b u hb e => hk'' b u hb ?_) hS'' hn' hp' hnd'
      have hbS : S ≠ b := fun h => hb (by rw [← h]; exact List.mem_cons_self)
      exact (Heap.get?_update_other _ _ hbS).trans (hk' b u (fun h => hb (List.mem_cons_of_mem _ h)) e)
end
end PF

/-! text PF24 -/
set_option Elab.async false
set_option linter.all false
set_option maxRecDepth 100000
set_option maxHeartbeats 2000000
/-! PF24: list(zip(..)) of tuples. -/
namespace PF
open PySem L2 PySem.Spec PyProof.Rows
theorem nolen_zip : typeLookup (.type "zip") "__len__" = pure none := by rw [typeLookup_type, builtinLookup_eq_fast]; kernel_rfl
theorem nohint_zip : typeLookup (.type "zip") "__length_hint__" = pure none := by rw [typeLookup_type, builtinLookup_eq_fast]; kernel_rfl
section
variable {prog : Program} {w : World} {A : Around} {z TI TO i1 i2 l1 l2 S : Addr} {xs ys : Array Value} {m n : Nat}
theorem ZSt.zip {h : Heap} {i : Nat} (st : ZSt z TI TO i1 i2 l1 l2 xs ys h i) : ∃ o, h.get? z = some o ∧ o.cls = .type "zip" := by
  obtain ⟨_, _, _, _, _, ⟨hz, _⟩ | ⟨t, b, o, hz, _⟩⟩ := st
  · exact ⟨_, hz, rfl⟩
  · exact ⟨_, hz, rfl⟩
theorem call_list_zip {E : Value → Shared → Prop} {s : Shared} {Q : Value → Shared → Prop} (hh : A.handled = none) (D : ZipApart z TI TO i1 i2 l1 l2) (hm : ∀ c ∈ [z, TI, TO, i1, i2, l1, l2], c < s.heap.objs.size)
    (hz : IsZip s.heap z TI TO .none) (st : ZSt z TI TO i1 i2 l1 l2 xs ys s.heap 0) (hn : n = min xs.size ys.size) (hsz : n ≤ sizeLine)
    (hQ : ∀ h' acc' c', (∀ b u, b ∉ [z, TO, i1, i2] → s.heap.get? b = some u → h'.get? b = some u) → h'.get? s.heap.objs.size = some { cls := .type "list", dict := none, data := .seq acc' c', slots := #[] } →
      acc'.size = n → Prs (s.heap.objs.size + 1) h' xs ys acc' → acc'.toList.Nodup → Q (.ref s.heap.objs.size) { s with heap := h' }) :
    wpAny (model prog w) A (call (.type "list") [.ref z]) Q E s := by
  refine callType_codes (Q₁ := fun obj s₁ => obj = .ref s.heap.objs.size ∧ s₁ = { s with heap := s.heap.push { cls := .type "list", data := .seq #[] } }) PySem.F.called_list (PySem.F.typeCall_list_1 _) PySem.F.entry_list_init
    (code_list_new _ ⟨rfl, rfl⟩) fun obj s₁ h₁ => ?_
  obtain ⟨rfl, rfl⟩ := h₁
  have hS : (s.heap.push { cls := .type "list", data := .seq #[] }).get? s.heap.objs.size = some { cls := .type "list", data := .seq #[] } := Heap.get?_push_size _ rfl
  have hSf : s.heap.objs.size ∉ [z, TI, TO, i1, i2, l1, l2] := fun h => Nat.lt_irrefl _ (hm _ h)
  have hzl : z < s.heap.objs.size := Heap.lt_size hz
  refine ⟨⟨_, hS, rfl⟩, PySem.F.args_list_init_2 _ _, ?_⟩
  have key : ∀ (h : Heap) (c : Nat), (∀ b u, s.heap.get? b = some u → h.get? b = some u) → h.get? s.heap.objs.size = some { cls := .type "list", data := .seq #[] c } →
      codeAny (model prog w) A.in1 (.builtin "list.extend.loop" ⟨[.ref s.heap.objs.size, .ref z, .none], []⟩) (wants (fun r s₂ => r = .none ∧ Q (.ref s.heap.objs.size) s₂) E) { s with heap := h } := fun h c kp hS₄ => by
    refine extend_zip (A := A.in1) (s := { s with heap := h }) (m := s.heap.objs.size + 1) hh D hSf (Nat.lt_succ_self _) (fun c hc => Nat.lt_succ_of_lt (hm c hc)) hn hsz .none (n - 0) 0 #[] c rfl (Nat.zero_le _) (Heap.lt_size hS₄) (st.keep hSf (fun t b o _ e => ⟨o, kp _ _ e⟩) fun b u _ e => kp b u e) hS₄ rfl (fun j v hj => by simp at hj) List.nodup_nil fun h' acc' c' hk hS' hac hp hnd => ?_
    refine ⟨rfl, hQ h' acc' c' (fun b u hb e => hk b u (fun h => ?_) (kp b u e)) hS' hac hp hnd⟩
    rcases List.mem_cons.mp h with h | h
    · exact absurd (Heap.lt_size e) (by rw [h]; exact Nat.lt_irrefl _)
    · exact hb h
  show wpAny _ _ (do let old ← Builtin.List.listItems (.ref s.heap.objs.size); Builtin.List.listUpdate (.ref s.heap.objs.size) (fun _ => #[]); letGo old.toList.reverse; Builtin.List.listExtendWith (.ref s.heap.objs.size) (.ref z) .none) _ _ _
  refine wpAny_bind ?_
  unfold Builtin.List.listItems
  refine wpAny_bind (wpAny_seqItems hS rfl (wpAny_pure ?_))
  show wpAny _ _ (updateSeq s.heap.objs.size (fun _ => #[]) >>= fun _ => letGo (#[] : Array Value).toList.reverse >>= fun _ => Builtin.List.listExtendWith (.ref s.heap.objs.size) (.ref z) .none) _ _ _
  refine wpAny_bind (wpAny_updateSeq hS rfl ?_)
  have hS₂ := Heap.get?_update_self (Obj.mapSeq (fun _ => (#[] : Array Value))) hS rfl
  have kp₂ : ∀ b u, s.heap.get? b = some u → ((s.heap.push { cls := .type "list", data := .seq #[] }).update s.heap.objs.size (Obj.mapSeq (fun _ => (#[] : Array Value)))).get? b = some u :=
    fun b u e => (Heap.get?_update_other _ _ (Nat.ne_of_gt (Heap.lt_size e))).trans (Heap.get?_push_of_some _ e)
  refine wpAny_bind (wpAny_letGo ?_)
  unfold Builtin.List.listExtendWith
  refine wpAny_bind (wpAny_typeOf (T := "zip") ⟨_, kp₂ _ _ hz, rfl⟩ ?_)
  have h1 : Builtin.List.listSameRef (.ref s.heap.objs.size) (.ref z) = false := by simp [Builtin.List.listSameRef, Nat.ne_of_gt hzl]
  have h2 : (Value.type "zip" == Value.type "list") = false := by decide
  have h3 : (Value.type "zip" == Value.type "tuple") = false := by decide
  simp only [h1, h2, h3, Bool.or_false, Bool.false_eq_true, if_false]
  refine wpAny_bind (wpAny_pyIter_zip (kp₂ _ _ hz) ?_)
  refine wpAny_bind (wpAny_holding ?_)
  unfold Builtin.List.listLengthHint
  refine wpAny_bind (wpAny_specialOf (T := "zip") ⟨_, kp₂ _ _ hz, rfl⟩ nolen_zip ?_)
  show wpAny _ _ (specialOf (Value.ref z) (Str.ofString "__length_hint__") >>= _) _ _ _
  refine wpAny_bind (wpAny_specialOf (T := "zip") ⟨_, kp₂ _ _ hz, rfl⟩ nohint_zip ?_)
  refine wpAny_pure ?_
  show wpAny _ _ (rule "list.extend.makes-room" >>= fun _ => Builtin.List.listTouch (.ref s.heap.objs.size) >>= fun _ =>
    again (.builtin "list.extend.loop" ⟨[.ref s.heap.objs.size, .ref z, .none], []⟩)) _ _ _
  refine wpAny_bind (wpAny_rule ?_)
  refine wpAny_bind ?_
  show wpAny _ _ (updateSeq s.heap.objs.size (·.push .none) >>= fun _ => updateSeq s.heap.objs.size (·.pop)) _ _ _
  refine wpAny_bind (wpAny_updateSeq hS₂ rfl ?_)
  have hS₃ := Heap.get?_update_self (Obj.mapSeq (·.push Value.none)) hS₂ rfl
  refine wpAny_updateSeq hS₃ rfl ?_
  have hS₄ := Heap.get?_update_self (Obj.mapSeq (·.pop)) hS₃ rfl
  have kp₄ : ∀ b u, s.heap.get? b = some u → ((((s.heap.push { cls := .type "list", data := .seq #[] }).update s.heap.objs.size (Obj.mapSeq (fun _ => (#[] : Array Value)))).update s.heap.objs.size (Obj.mapSeq (·.push Value.none))).update s.heap.objs.size (Obj.mapSeq (·.pop))).get? b = some u :=
    fun b u e => (Heap.get?_update_other _ _ (Nat.ne_of_gt (Heap.lt_size e))).trans ((Heap.get?_update_other _ _ (Nat.ne_of_gt (Heap.lt_size e))).trans (kp₂ b u e))
  refine wpAny_pure ⟨plainId_quiet PySem.F.plain_extend_loop _, key _ _ kp₄ hS₄⟩
end
end PF

/-! text PF25 -/
set_option Elab.async false
set_option linter.all false
set_option maxRecDepth 100000
set_option maxHeartbeats 2000000
/-! PF25: the expression list(zip(..)) of tuples. -/
namespace PF
open PySem L2 PySem.Spec PyProof.Rows
/-- new tuples laid -/
def layT (H : Hp) : List (Addr × List V) → Hp
  | [] => H
  | (a, vs) :: r => layT (upd H a (.tup vs)) r
theorem layT_other {a : Addr} : ∀ {l : List (Addr × List V)} {H : Hp}, a ∉ l.map (·.1) → layT H l a = H a
  | [], H, _ => rfl
  | (b, vs) :: r, H, h => by
    rw [List.map_cons, List.mem_cons, not_or] at h
    show layT (upd H b (.tup vs)) r a = H a
    rw [layT_other h.2, upd_ne h.1]
theorem layT_at {a : Addr} {vs : List V} : ∀ {l : List (Addr × List V)} {H : Hp}, (l.map (·.1)).Nodup → (a, vs) ∈ l → layT H l a = some (.tup vs)
  | [], H, _, h => by cases h
  | (b, ws) :: r, H, nd, h => by
    rw [List.map_cons, List.nodup_cons] at nd
    show layT (upd H b (.tup ws)) r a = _
    rcases List.mem_cons.mp h with e | h
    · cases e
      rw [layT_other nd.1, upd_same]
    · exact layT_at nd.2 h
theorem layT_inv {a : Addr} {o : HO} : ∀ {l : List (Addr × List V)} {H : Hp}, layT H l a = some o → H a = some o ∨ ∃ vs, (a, vs) ∈ l ∧ o = .tup vs
  | [], H, h => .inl h
  | (b, ws) :: r, H, h => by
    rcases layT_inv (l := r) h with h | ⟨vs, h1, h2⟩
    · by_cases e : a = b
      · subst e
        rw [upd_same] at h
        exact .inr ⟨ws, List.mem_cons_self, (Option.some.inj h).symm⟩
      · rw [upd_ne e] at h
        exact .inl h
    · exact .inr ⟨vs, List.mem_cons_of_mem _ h1, h2⟩
def pairsV : List V → List V → List (List V)
  | x :: xs, y :: ys => [x, y] :: pairsV xs ys
  | _, _ => []
theorem pairsV_len : ∀ xs ys : List V, (pairsV xs ys).length = min xs.length ys.length
  | [], _ => by simp [pairsV]
  | _ :: _, [] => by simp [pairsV]
  | x :: xs, y :: ys => by simp [pairsV, pairsV_len xs ys]
theorem pairsV_at : ∀ {xs ys : List V} {j : Nat} {vs : List V}, (pairsV xs ys)[j]? = some vs → ∃ x y, xs[j]? = some x ∧ ys[j]? = some y ∧ vs = [x, y]
  | [], _, j, vs, h => by simp [pairsV] at h
  | _ :: _, [], j, vs, h => by simp [pairsV] at h
  | x :: xs, y :: ys, 0, vs, h => by simp [pairsV] at h; exact ⟨x, y, rfl, rfl, h.symm⟩
  | x :: xs, y :: ys, j + 1, vs, h => by
    simp only [pairsV, List.getElem?_cons_succ] at h ⊢
    exact pairsV_at h
section
variable {X : Cx} {pins : List (Addr × Obj)} {σ : St} {H H' : Hp} {s : Shared} {h' : Heap} {t' : Nat}
/-- several new objects laid and tracked -/
theorem laidMany (I : Inv X pins σ H s) (k : ∀ b u, s.heap.get? b = some u → h'.get? b = some u) (ext : ∀ a o, H a = some o → H' a = some o)
    (new : ∀ a o, H' a = some o → H a = some o ∨ (s.heap.objs.size ≤ a ∧ ObjOk X.prog X.w H' h' a o)) : Inv X pins σ H' { s with heap := h', toks := t' } :=
  I.un ⟨fun b u q _ _ _ => k b u q, fun b u q _ _ _ => ⟨u.slots, k b u q⟩, fun b u q n _ => by
      cases e : H' b with
      | none => rfl
      | some o =>
        rcases new b o e with h | ⟨h, _⟩
        · rw [n] at h; cases h
        · exact absurd (Heap.lt_size q) (Nat.not_lt_of_le h), fun b u q _ => ⟨u, k b u q⟩, fun b xs q => ext _ _ q, fun b u xs q => ext _ _ q, fun b ps q => ⟨#[], by rw [ext _ _ q]; simp⟩⟩
    fun a o e => by
      rcases new a o e with h | ⟨_, h⟩
      · exact (I.hok a o h).stay (fun b u _ q => k b u q) (fun _ q => ext _ _ q) fun _ _ q => ext _ _ q
      · exact h
def addrV : Value → Addr
  | .ref a => a
  | _ => 0
def tLZ (K : PySem.W.Frag) (ta : TA) : TE := fun σ H Q => ta σ H fun vs H1 => ∃ a b xs ys, vs = [.ref a, .ref b] ∧ SqT K H1 a xs ∧ SqT K H1 b ys ∧ ∀ (l : List (Addr × List V)) (p : Addr), (l.map (·.1)).Nodup → (∀ q ∈ l, H1 q.1 = none) → p ∉ l.map (·.1) → H1 p = none →
  l.map (·.2) = pairsV xs ys → Q (.ref p) (upd (layT H1 l) p (.lst (l.map fun q => .ref q.1)))
theorem vals_addr : ∀ {us : List Value}, (∀ u ∈ us, ∃ T, u = Value.ref T) → Vals ((us.map addrV).map V.ref) us
  | [], _ => .nil
  | u :: us, h => by
    refine .cons ?_ (vals_addr fun v hv => h v (List.mem_cons_of_mem _ hv))
    obtain ⟨T, rfl⟩ := h u List.mem_cons_self
    rfl
theorem pe_listZip {e e2 : Expr} {ta : TA} {p1 p2 q1 q2 : Pos} (hc : X.calm = true) (hg1 : Gl X "list") (hm1 : X.mg "list" = none) (hv1 : bootBuiltins "list" = some (.type "list")) (hg2 : Gl X "zip") (hm2 : X.mg "zip" = none) (hv2 : bootBuiltins "zip" = some (.type "zip"))
    (ha : PA X [e, e2] ta) (he : starEach [e, e2] X.env = (false, eval e X.env) :: starEach [e2] X.env := by rfl) (hpl : (backTo q2 (starEach [e2] X.env)).any (·.1) = false := by rfl) :
    PE X (.Call (.Name "list" p1) [.Call (.Name "zip" p2) [e, e2] [] q2] [] q1) (tLZ X.K ta) := by
  refine ⟨fun pins s σ H Q I h => ?_⟩
  refine wpAny_Call_Name_kw (ld_blt I hg1 hm1 hv1 ?_ (by decide) (by decide))
  refine PyProof.Rows.callWith_type1 ?_ (by rfl) (by rfl)
  show wpAny _ _ (spliced ((false, eval (.Call (.Name "zip" p2) [e, e2] [] q2) X.env) :: backTo q1 (starEach [] X.env))) _ _ s
  refine Calls.spliced_cons ?_
  refine wpAny_Call_Name_kw (ld_blt I hg2 hm2 hv2 ?_ (by decide) (by decide))
  refine PyProof.Rows.callWith_type1 (thn (ha.run q2 pins s σ H _ I h) fun us s1 ⟨vs, H1, I1, r1, q⟩ => ?_) he hpl
  obtain ⟨a, b, xs, ys, rfl, hx, hy, q⟩ := q
  cases r1 with
  | cons r rr =>
    cases rr with
    | cons r' rr =>
      cases rr
      cases r
      cases r'
      obtain ⟨its, rv, pa, hz1⟩ := I1.tuple hx
      obtain ⟨its2, rv2, pb, hz2⟩ := I1.tuple hy
      have la := rv.length
      have lb := rv2.length
      obtain ⟨oa, hoa, _⟩ := id pa
      obtain ⟨ob, hob, _⟩ := id pb
      have D := PySem.W.ktu_apart s1.heap.objs.size a b (Heap.lt_size hoa) (Heap.lt_size hob)
      refine RZ.call_zipT (show s1.heap.IsTuple a its.toArray from pa) (show s1.heap.IsTuple b its2.toArray from pb) fun h1 hz hTI hTO hi1 hi2 hsz hk => ?_
      refine Calls.spliced_nil ?_
      have st : ZSt (s1.heap.objs.size + 4) (s1.heap.objs.size + 2) (s1.heap.objs.size + 3) s1.heap.objs.size (s1.heap.objs.size + 1) a b its.toArray its2.toArray h1 0 :=
        ⟨hTI, hi1, hi2, isTuple_keep pa fun u e => hk _ u e, isTuple_keep pb fun u e => hk _ u e, .inl ⟨hz, _, _, hTO⟩⟩
      have low : ∀ c ∈ [s1.heap.objs.size + 4, s1.heap.objs.size + 2, s1.heap.objs.size + 3, s1.heap.objs.size, s1.heap.objs.size + 1, a, b], c < h1.objs.size := fun c hc => by
        simp only [List.mem_cons, List.not_mem_nil, or_false] at hc
        have ga : a < s1.heap.objs.size := Heap.lt_size hoa
        have gb : b < s1.heap.objs.size := Heap.lt_size hob
        rw [hsz]
        rcases hc with h | h | h | h | h | h | h <;> rw [h]
        · exact Nat.add_lt_add_left (by decide) _
        · exact Nat.add_lt_add_left (by decide) _
        · exact Nat.add_lt_add_left (by decide) _
        · exact Nat.lt_add_of_pos_right (by decide)
        · exact Nat.add_lt_add_left (by decide) _
        · exact Nat.lt_of_lt_of_le ga (Nat.le_add_right _ _)
        · exact Nat.lt_of_lt_of_le gb (Nat.le_add_right _ _)
      refine call_list_zip (n := min its.toArray.size its2.toArray.size) (I.ok.hd hc) D low hz st rfl (by simp only [List.size_toArray]; omega) fun h' acc' c' hk' hS' hn' hp' hnd => ?_
      have hS5 : s1.heap.objs.size ≤ h1.objs.size := by rw [hsz]; exact Nat.le_add_right _ _
      have keepAll : ∀ b u, s1.heap.get? b = some u → h'.get? b = some u := fun c u e => hk' c u (fun hc => by
        have hl := Heap.lt_size e
        simp only [List.mem_cons, List.not_mem_nil, or_false] at hc
        rcases hc with h | h | h | h <;> rw [h] at hl
        · exact absurd hl (Nat.not_lt_of_le (Nat.le_add_right _ _))
        · exact absurd hl (Nat.not_lt_of_le (Nat.le_add_right _ _))
        · exact Nat.lt_irrefl _ hl
        · exact absurd hl (Nat.not_lt_of_le (Nat.le_add_right _ _))) (hk c u e)
      have at_j : ∀ (j : Nat) (v : Value), acc'.toList[j]? = some v → ∃ T x y, v = .ref T ∧ h1.objs.size + 1 ≤ T ∧ its[j]? = some x ∧ its2[j]? = some y ∧ IsPair h' T x y := fun j v hj => by
        obtain ⟨T, x, y, e1, e2, e3, e4, e5⟩ := hp' j v (by rw [← Array.getElem?_toList]; exact hj)
        exact ⟨T, x, y, e1, e2, by simpa using e3, by simpa using e4, e5⟩
      have allr : ∀ v ∈ acc'.toList, ∃ T, v = .ref T ∧ h1.objs.size + 1 ≤ T := fun v hv => by
        obtain ⟨j, hj, ej⟩ := List.getElem_of_mem hv
        obtain ⟨T, _, _, e1, e2, _⟩ := at_j j v (by rw [List.getElem?_eq_getElem hj, ej])
        exact ⟨T, e1, e2⟩
      have hlen : (acc'.toList.map addrV).length = (pairsV xs ys).length := by
        rw [List.length_map, Array.length_toList, hn', pairsV_len, List.size_toArray, List.size_toArray, la, lb]
      obtain ⟨l, hl⟩ : ∃ l, l = (acc'.toList.map addrV).zip (pairsV xs ys) := ⟨_, rfl⟩
      have l1 : l.map (·.1) = acc'.toList.map addrV := by rw [hl]; exact List.map_fst_zip (Nat.le_of_eq hlen)
      have l2 : l.map (·.2) = pairsV xs ys := by rw [hl]; exact List.map_snd_zip (Nat.le_of_eq hlen.symm)
      have hnd1 : (l.map (·.1)).Nodup := by
        rw [l1]
        refine List.pairwise_map.mpr (hnd.imp_of_mem fun {u v} hu hv hne e => hne ?_)
        obtain ⟨T, rfl, _⟩ := allr u hu
        obtain ⟨T', rfl, _⟩ := allr v hv
        exact congrArg Value.ref e
      have hT : ∀ T ∈ l.map (·.1), h1.objs.size + 1 ≤ T := fun T hT => by
        rw [l1] at hT
        obtain ⟨v, hv, e⟩ := List.mem_map.mp hT
        obtain ⟨T', rfl, h⟩ := allr v hv
        rw [← e]
        exact h
      have hfr : ∀ q ∈ l, H1 q.1 = none := fun q hq => I1.hok.fresh (Nat.le_trans hS5 (Nat.le_of_succ_le (hT _ (List.mem_map_of_mem hq))))
      have hpn : h1.objs.size ∉ l.map (·.1) := fun h => Nat.not_succ_le_self _ (hT _ h)
      have hp0 : H1 h1.objs.size = none := I1.hok.fresh hS5
      have eaddr : (l.map fun q => V.ref q.1) = (acc'.toList.map addrV).map V.ref := by rw [← l1, List.map_map]; rfl
      suffices J : Inv X pins σ (upd (layT H1 l) h1.objs.size (.lst (l.map fun q => .ref q.1))) { s1 with heap := h', toks := s1.toks } from
        ⟨.ref h1.objs.size, upd (layT H1 l) h1.objs.size (.lst (l.map fun q => .ref q.1)), J, rfl, q l _ hnd1 hfr hpn hp0 l2⟩
      refine laidMany (t' := s1.toks) I1 keepAll (fun c o e => ?_) (fun c o e => ?_)
      · have c1 : c ≠ h1.objs.size := fun h => by rw [h, hp0] at e; cases e
        rw [upd_ne c1, layT_other (fun h => ?_)]
        · exact e
        · obtain ⟨q, hq, e'⟩ := List.mem_map.mp h
          have := hfr q hq
          rw [e', e] at this
          cases this
      · by_cases c1 : c = h1.objs.size
        · rw [c1, upd_same] at e
          cases e
          rw [c1]
          refine .inr ⟨hS5, ?_, acc'.toList, c', ?_, ?_⟩
          · rw [List.length_map, hl, List.length_zip, hlen, Nat.min_self, pairsV_len]
            omega
          · rw [eaddr]
            exact vals_addr fun u hu => let ⟨T, h, _⟩ := allr u hu; ⟨T, h⟩
          · rw [Array.toArray_toList]
            exact hS'
        · rw [upd_ne c1] at e
          rcases layT_inv e with e | ⟨vs, hm, e⟩
          · exact .inl e
          · subst e
            have hc := hT c (List.mem_map_of_mem (f := (·.1)) hm)
            refine .inr ⟨Nat.le_trans hS5 (Nat.le_of_succ_le hc), ?_⟩
            obtain ⟨j, hj, ej⟩ := List.getElem_of_mem hm
            have ej' : ((acc'.toList.map addrV).zip (pairsV xs ys))[j]? = some (c, vs) := by rw [← hl, List.getElem?_eq_getElem hj, ej]
            obtain ⟨g1, g2⟩ := List.getElem?_zip_eq_some.mp ej'
            obtain ⟨x, y, k1, k2, rfl⟩ := pairsV_at g2
            rw [List.getElem?_map] at g1
            obtain ⟨v, hv, ev⟩ := Option.map_eq_some_iff.mp g1
            obtain ⟨T, u, u2, e1, _, e3, e4, e5⟩ := at_j j v hv
            subst e1
            have ev' : T = c := ev
            subst ev'
            obtain ⟨w1, h1', r1'⟩ := rv.get k1
            obtain ⟨w2, h2', r2'⟩ := rv2.get k2
            rw [e3] at h1'
            cases h1'
            rw [e4] at h2'
            cases h2'
            exact ⟨by show 2 ≤ sizeLine; decide, [u, u2], .cons r1' (.cons r2' .nil), ⟨_, e5, rfl, _, rfl⟩⟩
end
end PF

/-! text PF26 -/
set_option Elab.async false
set_option linter.all false
set_option maxRecDepth 100000
set_option maxHeartbeats 2000000
/-! PF26: the reading of list(zip(..)). -/
namespace PF
open PySem L2 PySem.Spec PyProof.Rows
def oListZip : BL := fun ds A => match ds with
  | [d, e] => match tupOf d with
    | some xs => match tupOf e with
      | some ys => some (.val (.p (.lst (zipP xs ys))) A)
      | none => none
    | none => none
  | _ => none
section
variable {X : Cx} {W : WX} {K : PySem.W.Frag} {ρ ρ' : List Addr} {A A' : AH} {H H' : Hp} {σ : St} {σD : EnvD}
theorem step_layT : ∀ {l : List (Addr × List V)} {H : Hp}, Rep K ρ A H → (l.map (·.1)).Nodup → (∀ q ∈ l, H q.1 = none) → Step K ρ A H ρ A (layT H l)
  | [], H, r, _, _ => Step.refl r
  | (a, vs) :: t, H, r, nd, h => by
    rw [List.map_cons, List.nodup_cons] at nd
    have s1 := Step.laid r (.tup vs) (h (a, vs) List.mem_cons_self)
    refine s1.trans (step_layT s1.rep nd.2 fun q hq => ?_)
    have hne : q.1 ≠ a := fun e => nd.1 (by show a ∈ List.map (fun x => x.fst) t; rw [← e]; exact List.mem_map_of_mem (f := fun x => x.fst) hq)
    show upd H a (.tup vs) q.1 = none
    rw [upd_ne hne]
    exact h q (List.mem_cons_of_mem _ hq)
theorem zip_rel {L : Addr → Prop} : ∀ {xs ys : List P} {vs ws : List V} {l : List (Addr × List V)}, RelPs K L H xs vs → RelPs K L H ys ws → l.map (·.2) = pairsV vs ws → (∀ q ∈ l, H q.1 = some (.tup q.2)) →
    RelPs K L H (zipP xs ys) (l.map fun q => .ref q.1)
  | [], ys, vs, ws, l, h1, h2, e, hq => by
    simp only [RelPs] at h1
    subst h1
    simp only [pairsV] at e
    rw [List.map_eq_nil_iff] at e
    subst e
    simp only [zipP, List.zipWith_nil_left, List.map_nil, RelPs]
  | x :: xs, [], vs, ws, l, h1, h2, e, hq => by
    simp only [RelPs] at h2
    subst h2
    obtain ⟨v, w, rfl, _⟩ := h1
    simp only [pairsV] at e
    rw [List.map_eq_nil_iff] at e
    subst e
    simp only [zipP, List.zipWith_nil_right, List.map_nil, RelPs]
  | x :: xs, y :: ys, vs, ws, l, h1, h2, e, hq => by
    simp only [RelPs] at h1 h2
    obtain ⟨v, vr, rfl, a1, a2⟩ := h1
    obtain ⟨w, wr, rfl, b1, b2⟩ := h2
    simp only [pairsV] at e
    cases l with
    | nil => cases e
    | cons q l =>
      rw [List.map_cons, List.cons.injEq] at e
      simp only [zipP, List.zipWith_cons_cons, List.map_cons, RelPs]
      refine ⟨_, _, rfl, ?_, zip_rel a2 b2 e.2 fun q' h => hq q' (List.mem_cons_of_mem _ h)⟩
      simp only [RelP, RelPs]
      exact ⟨q.1, _, rfl, (hq q List.mem_cons_self).trans (by rw [e.1]), v, _, rfl, a1, w, _, rfl, b1, rfl⟩
theorem e_listZip {e e2 : Expr} {a : BA} {p1 p2 q1 q2 : Pos} (hc : X.calm = true) (hg1 : Gl X "list") (hm1 : X.mg "list" = none) (hv1 : bootBuiltins "list" = some (.type "list")) (hg2 : Gl X "zip") (hm2 : X.mg "zip" = none) (hv2 : bootBuiltins "zip" = some (.type "zip"))
    (ha : PA X [e, e2] (tA X.K W a)) (he : starEach [e, e2] X.env = (false, eval e X.env) :: starEach [e2] X.env := by rfl) (hpl : (backTo q2 (starEach [e2] X.env)).any (·.1) = false := by rfl) :
    PE X (.Call (.Name "list" p1) [.Call (.Name "zip" p2) [e, e2] [] q2] [] q1) (tE X.K W (bCB oListZip a)) := by
  refine (pe_listZip hc hg1 hm1 hv1 hg2 hm2 hv2 ha he hpl).imp fun σ H Q h => ?_
  refine tG.mono (tG.bind (f := a) h) fun vs H1 ⟨ρ1, A1, σD, ds, r1, e1, rd, o⟩ => ?_
  unfold oListZip at o
  split at o
  · rename_i d d2
    obtain ⟨v1, w1, rfl, rv, v2, w2, rfl, rv2, e3⟩ := rd
    cases e3
    split at o
    · rename_i xs hx
      split at o
      · rename_i ys hy
        obtain ⟨a1, us, rfl, h1, h2⟩ := rd_tup rv hx
        obtain ⟨a2, ws, rfl, h3, h4⟩ := rd_tup rv2 hy
        refine ⟨a1, a2, us, ws, rfl, h1, h3, fun l p hnd hfr hpn hp0 hl => ?_⟩
        have s1 := step_layT r1 hnd hfr
        have hp1 : layT H1 l p = none := by rw [layT_other hpn]; exact hp0
        have s2 := Step.laid s1.rep (.lst (l.map fun q => .ref q.1)) hp1
        have s3 := s1.trans s2
        refine o _ _ _ s3 ?_
        simp only [RelD, RelP]
        refine ⟨p, _, rfl, s1.rep.notNone hp1, upd_same, zip_rel (h2.step r1 s3) (h4.step r1 s3) hl fun q hq => ?_⟩
        have hne : q.1 ≠ p := fun e => hpn (by rw [← e]; exact List.mem_map_of_mem hq)
        rw [upd_ne hne]
        exact layT_at hnd hq
      · exact o.elim
    · exact o.elim
  · exact o.elim
end
end PF

/-! text PF27 -/
set_option Elab.async false
set_option linter.all false
set_option maxRecDepth 100000
set_option maxHeartbeats 2000000
/-! PF27: min of two texts. -/
namespace PF
open PySem L2 PySem.Spec PyProof.Rows
section
variable {prog : Program} {w : World} {A : Around} {E : Value → Shared → Prop} {s : Shared}
theorem cmp_strs {A : Around} {P : Nat → Value → Prop} (val : Nat → Str) (hval : ∀ i v, P i v → ∃ t, v = .str (val i) t) :
    CmpOf prog w A .Lt P (fun i j => decide ((val i).cps.toList < (val j).cps.toList)) := fun i j vi vj s Q E hi hj h => by
  obtain ⟨t, rfl⟩ := hval i vi hi
  obtain ⟨u, rfl⟩ := hval j vj hj
  exact richCompare_gives (op := .Lt) (typeIs_str s _ t) (typeIs_str s _ u) PySem.F.slot_str_lt PySem.F.entry_str_lt (PySem.F.args_str_lt_2 _ _) (gives_str_lt _ _ t u) (fun x => nomatch x) h
theorem min_two_strs {a b : Str} {t u : Tok} {Q : Value → Shared → Prop} (hh : A.handled = none)
    (h : ∀ h' tk, (∀ c o, s.heap.get? c = some o → h'.get? c = some o) → Q (if b.cps.toList < a.cps.toList then .str b u else .str a t) { s with heap := h', toks := tk }) :
    wpAny (model prog w) A (call (.builtin "min") [.str a t, .str b u]) Q E s := by
  have hT : (s.heap.push { cls := .type "tuple", data := .seq #[.str a t, .str b u] }).IsTuple s.heap.objs.size #[.str a t, .str b u] := ⟨_, Heap.get?_push_size _ rfl, rfl, 0, rfl⟩
  refine call_min_two (wpAny_pyIter_tuple hT ?_)
  have hsz : (s.heap.push { cls := .type "tuple", data := .seq #[.str a t, .str b u] }).objs.size = s.heap.objs.size + 1 := Heap.size_push ..
  have val : ∀ (i : Nat) (v : Value), (#[Value.str a t, Value.str b u] : Array Value)[i]? = some v → ∃ t', v = Value.str (if i = 0 then a else b) t' := fun i v hv => by
    match i, hv with
    | 0, hv => exact ⟨t, by simpa using hv.symm⟩
    | 1, hv => exact ⟨u, by simpa using hv.symm⟩
    | n + 2, hv => simp at hv
  refine ⟨_, [_, s.heap.objs.size], [_], _, _, _, _, rfl, Walks.tuple (A := A.in1) hh _ s.heap.objs.size (by rw [hsz]; exact Nat.ne_of_lt (Nat.lt_succ_self _)) (#[Value.str a t, Value.str b u] : Array Value),
    ⟨⟨_, Heap.get?_push_size _ rfl, rfl, rfl⟩, hT.push _⟩, fun c hc => ?_, by simp, cmp_strs (fun i => if i = 0 then a else b) val, fun v h' tk hP hk => ?_⟩
  · show c < ((s.heap.push _).push _).objs.size
    rw [Heap.size_push, hsz]
    rcases List.mem_cons.mp hc with rfl | hc
    · rw [hsz]; exact Nat.lt_succ_self _
    · rcases List.mem_cons.mp hc with rfl | hc
      · exact Nat.lt_succ_of_lt (Nat.lt_succ_self _)
      · cases hc
  · have hold : ∀ c o, s.heap.get? c = some o → h'.get? c = some o := fun c o e => by
      refine hk c o (fun hm => ?_) (Heap.get?_push_of_some _ (Heap.get?_push_of_some _ e))
      rcases List.mem_cons.mp hm with e1 | hm
      · have := Heap.lt_size e; rw [e1, hsz] at this; exact Nat.lt_irrefl _ (Nat.lt_of_succ_lt this)
      · cases hm
    have g := h h' tk hold
    have hv : v = if b.cps.toList < a.cps.toList then Value.str b u else Value.str a t := by
      have hP' : (#[Value.str a t, Value.str b u] : Array Value)[argBest (fun i j => decide ((if i = 0 then a else b).cps.toList < (if j = 0 then a else b).cps.toList)) 1]? = some v := hP
      by_cases hba : b.cps.toList < a.cps.toList
      · rw [show argBest (fun i j => decide ((if i = 0 then a else b).cps.toList < (if j = 0 then a else b).cps.toList)) 1 = 1 by simp [argBest, hba]] at hP'
        simpa [hba] using hP'.symm
      · rw [show argBest (fun i j => decide ((if i = 0 then a else b).cps.toList < (if j = 0 then a else b).cps.toList)) 1 = 0 by simp [argBest, hba]] at hP'
        simpa [hba] using hP'.symm
    rw [hv]; exact g
end
def oMin2 : BL := fun ds => match ds with
  | [.p (.str i), .p (.str j)] => M.ret (.p (.str (if decide (j.cps.toList < i.cps.toList) then j else i)))
  | _ => M.stuck
section
variable {X : Cx} {W : WX} {K : PySem.W.Frag}
def rMin2 : List V → Hp → VK → Prop := fun xs H Q => ∃ i j, xs = [.str i, .str j] ∧ Q (.str (if decide (j.cps.toList < i.cps.toList) then j else i)) H
theorem call_min2X (hc : X.calm = true) : CallR X (.builtin "min") rMin2 := by
  intro pins s σ H xs us Q I r h
  obtain ⟨i, j, rfl, q⟩ := h
  obtain ⟨u, w', rfl, ⟨t, rfl⟩, ⟨t', rfl⟩⟩ := vals2 r
  refine min_two_strs (I.ok.hd hc) fun h' tk k => ⟨_, H, I.kept k, ?_, q⟩
  by_cases hj : j.cps.toList < i.cps.toList
  · simp only [hj, if_true, decide_true]; exact ⟨_, rfl⟩
  · simp only [hj, if_false, decide_false]; exact ⟨_, rfl⟩
theorem l_min2 : RLD K W oMin2 rMin2 := by
  intro ρ A σ H ds vs Q r rd o
  unfold oMin2 at o
  split at o
  · rename_i i j
    obtain ⟨v, w, rfl, rv, v2, w2, rfl, rv2, e3⟩ := rd
    cases e3
    simp only [RelD, RelP] at rv rv2; subst rv rv2
    exact ⟨i, j, rfl, OkE.ret r o (by simp only [RelD, RelP])⟩
  · exact o.elim
end
end PF

/-! text PF28 -/
set_option Elab.async false
set_option linter.all false
set_option maxRecDepth 100000
set_option maxHeartbeats 2000000
/-! PF28: repr of lists and tuples of plain values. -/
namespace PF
open PySem L2 PySem.Spec PyProof.Rows
mutual
def dataP : P → Option PyData
  | .non => some .none
  | .bl b => some (.bool b)
  | .int i => some (.int i)
  | .str s => some (.str s)
  | .tup xs => (dataPs xs).map .tuple
  | .lst xs => (dataPs xs).map .list
  | _ => none
def dataPs : List P → Option (List PyData)
  | [] => some []
  | x :: r => match dataP x, dataPs r with
    | some d, some ds => some (d :: ds)
    | _, _ => none
end
section
variable {X : Cx} {W : WX} {K : PySem.W.Frag} {L : Addr → Prop} {H : Hp} {pins : List (Addr × Obj)} {σ : L2.St} {s : Shared}
mutual
theorem reads_P (I : Inv X pins σ H s) : ∀ (x : P) (v : V) (u : Value) (d : PyData), RelP X.K L H x v → RelV v u → dataP x = some d → ∃ as, Reads s.heap u d as
  | .non, v, u, d, h, r, e => by
    simp only [RelP] at h; subst h; cases r; cases e; exact ⟨_, .none⟩
  | .bl b, v, u, d, h, r, e => by
    simp only [RelP] at h; subst h; cases r; cases e; exact ⟨_, .bool b⟩
  | .int i, v, u, d, h, r, e => by
    simp only [RelP] at h; subst h; obtain ⟨t, rfl⟩ := r; cases e; exact ⟨_, .int i t⟩
  | .str x, v, u, d, h, r, e => by
    simp only [RelP] at h; subst h; obtain ⟨t, rfl⟩ := r; cases e; exact ⟨_, .str x t⟩
  | .tup xs, v, u, d, h, r, e => by
    simp only [RelP] at h
    obtain ⟨a, vs, rfl, ha, hr⟩ := h
    obtain rfl : u = Value.ref a := r
    unfold dataP at e
    obtain ⟨ds, e1, rfl⟩ := Option.map_eq_some_iff.mp e
    obtain ⟨its, rv, ⟨o, ho, hc, n, hd⟩, _⟩ := I.tuple (SqT.of ha)
    obtain ⟨as, q⟩ := reads_Ps I xs vs its ds hr rv e1
    exact ⟨_, .tuple ho hc hd (by rw [List.toList_toArray]; exact q)⟩
  | .lst xs, v, u, d, h, r, e => by
    simp only [RelP] at h
    obtain ⟨a, vs, rfl, _, ha, hr⟩ := h
    obtain rfl : u = Value.ref a := r
    unfold dataP at e
    obtain ⟨ds, e1, rfl⟩ := Option.map_eq_some_iff.mp e
    obtain ⟨its, rv, ⟨o, n, ho, hc, _, hd⟩, _⟩ := I.list (SqL.of ha)
    obtain ⟨as, q⟩ := reads_Ps I xs vs its ds hr rv e1
    exact ⟨_, .list ho hc hd (by rw [List.toList_toArray]; exact q)⟩
  | .ktup _, _, _, _, _, _, e => by simp [dataP] at e
  | .klst _, _, _, _, _, _, e => by simp [dataP] at e
  | .dic _ _, _, _, _, _, _, e => by simp [dataP] at e
  | .obj _ _, _, _, _, _, _, e => by simp [dataP] at e
  | .rf _, _, _, _, _, _, e => by simp [dataP] at e
  | .ty _, _, _, _, _, _, e => by simp [dataP] at e
theorem reads_Ps (I : Inv X pins σ H s) : ∀ (xs : List P) (vs : List V) (us : List Value) (ds : List PyData), RelPs X.K L H xs vs → Vals vs us → dataPs xs = some ds → ∃ as, ReadsAll s.heap us ds as
  | [], vs, us, ds, h, r, e => by
    simp only [RelPs] at h; subst h; cases r; cases e; exact ⟨_, .nil⟩
  | x :: xs, vs, us, ds, h, r, e => by
    simp only [RelPs] at h
    obtain ⟨v, w, rfl, h1, h2⟩ := h
    cases r with
    | cons r1 r2 =>
      unfold dataPs at e
      cases e1 : dataP x with
      | none => rw [e1] at e; cases e
      | some d =>
        cases e2 : dataPs xs with
        | none => rw [e1, e2] at e; cases e
        | some ds' =>
          rw [e1, e2] at e
          cases e
          obtain ⟨as, q1⟩ := reads_P I x v _ d h1 r1 e1
          obtain ⟨bs, q2⟩ := reads_Ps I xs w _ ds' h2 r2 e2
          exact ⟨_, .cons q1 q2⟩
end
/-- d can be shown -/
def okData (d : PyData) : Bool := d.showable && !d.hasDict && decide (d.depth ≤ 60) && decide (d.shown.length ≤ sizeLine)
def oRepr : BL := fun ds A => match ds with
  | [.p x] => match dataP x with
    | some (.list xs) => if okData (.list xs) then M.ret (.p (.str (PyData.list xs).shown)) A else none
    | some (.tuple xs) => if okData (.tuple xs) then M.ret (.p (.str (PyData.tuple xs).shown)) A else none
    | _ => none
  | _ => none
def rReprX (X : Cx) : List V → Hp → VK → Prop := fun vs H Q => ∃ a d, vs = [.ref a] ∧ okData d = true ∧ (∀ pins σ s, Inv X pins σ H s → ∃ as, Reads s.heap (.ref a) d as) ∧ Q (.str d.shown) H
theorem call_reprX {k : Nat} (hr : Room k X.A) : CallR X (.builtin "repr") (rReprX X) := by
  intro pins s σ H vs us Q I r h
  obtain ⟨a, d, rfl, ok, hd, q⟩ := h
  obtain ⟨u, rfl, ru⟩ := vals1 r
  obtain rfl : u = Value.ref a := ru
  obtain ⟨as, rd⟩ := hd pins σ s I
  unfold okData at ok
  simp only [Bool.and_eq_true, decide_eq_true_eq, Bool.not_eq_true'] at ok
  obtain ⟨⟨⟨o1, o2⟩, o3⟩, o4⟩ := ok
  have hun := hr.un
  refine PySem.repr_of_reads' rd o1 (fun z => by rw [o2] at z; cases z) hr.gd (by omega) (fun _ _ e => e) (fun h' u tk kp => ⟨.str d.shown, H, I.kept kp, ⟨u, rfl⟩, q⟩) o4
theorem l_repr : RLD X.K W oRepr (rReprX X) := by
  intro ρ A σ H ds vs Q r rd o
  unfold oRepr at o
  split at o
  · rename_i x
    obtain ⟨v, w, rfl, rv, e3⟩ := rd
    cases e3
    have rv' : RelP X.K (Lv ρ A) H x v := rv
    split at o
    · rename_i xs hx
      split at o
      · rename_i ok
        have hv : ∃ a, v = .ref a := by
          cases x <;> simp only [dataP, Option.map_eq_some_iff, Option.some.injEq, reduceCtorEq, and_false, exists_false] at hx
          simp only [RelP] at rv'
          exact ⟨_, rv'.choose_spec.choose_spec.1⟩
        obtain ⟨a, rfl⟩ := hv
        exact ⟨a, _, rfl, ok, fun pins σ s I => reads_P I x _ _ _ rv' rfl hx, OkE.ret r o (by simp only [RelD, RelP])⟩
      · exact o.elim
    · rename_i xs hx
      split at o
      · rename_i ok
        have hv : ∃ a, v = .ref a := by
          cases x <;> simp only [dataP, Option.map_eq_some_iff, Option.some.injEq, reduceCtorEq, and_false, exists_false] at hx
          simp only [RelP] at rv'
          exact ⟨_, rv'.choose_spec.choose_spec.1⟩
        obtain ⟨a, rfl⟩ := hv
        exact ⟨a, _, rfl, ok, fun pins σ s I => reads_P I x _ _ _ rv' rfl hx, OkE.ret r o (by simp only [RelD, RelP])⟩
      · exact o.elim
    · exact o.elim
  · exact o.elim
end
end PF

/-! text PF29 -/
set_option Elab.async false
set_option linter.all false
set_option maxRecDepth 100000
/-! PF29: comprehensions' frames by closed facts; name = {..} on one line. -/
namespace PF
open PySem L2 PySem.Spec PyProof.Rows
theorem blkOk_by2 {N N' : List Str} {sc sc' scope : Scope} {own : List (Str × Nat)} (hN : N' = N) (hs : sc' = sc) (h : blkC N sc scope own = true) : BlkOk N' sc' scope own := blkOk_by (by rw [hN, hs]; exact h)
section
variable {X : Cx} {W : WX}
theorem ps_setDw {i : Nat} {y : Str} {py : Pos} {t : Bool} {kx vx tg iter : Expr} {ifs : List Expr} {scope : Scope} {own : List (Str × Nat)} {pos spos : Pos} {wi : TI} {g : TG} {tt : TT} {tk tv : TE} (hu : X.A.units + 1 < cLine) (hc : X.calm = true) (hN : X.N.Nodup)
    (hy : X.N[i]? = some y) (hyl : X.env.scope.names.lookup y = some .local) (hsw : swapsWith (.DictComp kx vx [⟨tg, iter, ifs, 0⟩] scope pos) (some (.Name y py)) spos.line X.env = pure true) (hi : PI X tg iter wi) (ok : BlkOk X.N X.env.scope scope own)
    (hg : Bk X scope fun Y => PG Y tg g) (ht : Bk X scope fun Y => PTs Y ifs tt) (hk : Bk X scope fun Y => PE Y kx tk) (he : Bk X scope fun Y => PE Y vx tv) (hs : ∀ x, foldedSetIterable iter X.env x = pure x) :
    PS X (.Assign [.Name y py] (.DictComp kx vx [⟨tg, iter, ifs, 0⟩] scope pos) spos) (tAsg (tDw t wi g tt tk tv (own.map (·.2))) (gName i)) := by
  refine ⟨fun pins s σ H D I h => ?_⟩
  rw [exec_Assign_Name_used _ _ _ _ hsw]
  refine wpAny_bind (wpAny_standAt (wpAny_bind ?_))
  show wpAny _ X.A (do let _ ← comprehension (.DictComp kx vx [⟨tg, iter, ifs, 0⟩] scope pos) scope X.env (firstIterPos [⟨tg, iter, ifs, 0⟩] pos) newDict false (eval iter X.env) (some (assign (.Name y py) X.env))) _ _ s
  have h : tDw t wi g tt tk tv (own.map (·.2)) σ H (fun x H1 => gName i x σ H1 D.nx) := h
  refine wpAny_bind (thn (dw_core (Qf := fun _ s' => SP X pins D .next s') hu hc hN I hi ok hg ht hk he hs h fun L C s' m H' I' q hn f => ?_) fun _ s' hq => wpAny_pure (wpAny_pure hq))
  show wpAny _ _ (assign (.Name y py) X.env (.ref L)) _ _ _
  refine wpAny_assign_Name (store_ok2 (v := V.ref L) I' hN hy (.inl hyl) rfl (fun s2 I2 ⟨a, sb, ha⟩ => ?_) (.inr hyl))
  obtain ⟨f0, f1, f2, f3, f4, f5⟩ := f
  have haC : C ≠ a := by
    rcases ha with z | z
    · rw [z]; exact f1
    · exact fun e => f4 y a z e.symm
  refine ⟨m, hn.sameBut sb haC, fun h3 sb3 => ?_⟩
  exact ⟨_, H', I2.turned (t' := s2.toks) (fun b o hb e => (sb3.2 b hb).trans e) f0 f1 f3 f4 f5, q⟩
theorem s_setDc {i : Nat} {y : Str} {py : Pos} {t : Bool} {kx vx tg iter : Expr} {ifs : List Expr} {scope : Scope} {own : List (Str × Nat)} {is : List Nat} {pos spos : Pos} {f : BI} {g : BG} {tt : BT} {tk tv : BE} (hu : X.A.units + 1 < cLine) (hc : X.calm = true) (hN : X.N.Nodup)
    (hy : X.N[i]? = some y) (hyl : X.env.scope.names.lookup y = some .local) (hsw : swapsWith (.DictComp kx vx [⟨tg, iter, ifs, 0⟩] scope pos) (some (.Name y py)) spos.line X.env = pure true) (hi : PI X tg iter (tI X.K W f)) (ok : BlkOk X.N X.env.scope scope own)
    (his : ∀ i ∈ is, i ∈ own.map (·.2)) (hg : Bk X scope fun Y => PG Y tg (tGt X.K is g)) (ht : Bk X scope fun Y => PTs Y ifs (tT X.K W0 tt)) (hk : Bk X scope fun Y => PE Y kx (tE X.K W0 tk)) (he : Bk X scope fun Y => PE Y vx (tE X.K W0 tv)) (hs : ∀ x, foldedSetIterable iter X.env x = pure x := by intro _; rfl) :
    PS X (.Assign [.Name y py] (.DictComp kx vx [⟨tg, iter, ifs, 0⟩] scope pos) spos) (tS X.K W (sSet (bDc t f g tt tk tv (own.map (·.2))) i)) :=
  (ps_setDw hu hc hN hy hyl hsw hi ok hg ht hk he hs).imp fun D σ H h => rSetN (fun _ _ _ z => rDc his z) h
end
end PF

/-! text PF30 -/
set_option Elab.async false
set_option linter.all false
set_option maxRecDepth 100000
set_option maxHeartbeats 1000000
/-! PF30: iteration over dicts that are values. -/
namespace PF
open PySem L2 PySem.Spec PyProof.Rows
/-- the dict at d as it is walked: locked -/
def Lkd (H1 : Hp) (d : Addr) (u : HO) (o : Obj) (H2 : Hp) : Prop := (H2 = H1 ∧ H1 d = some (.frz o u)) ∨ (H1 d = some u ∧ H2 = upd H1 d (.frz o u))
def iKeysL (td : TE) : TI := fun σ H R => td σ H fun x H1 => ∃ d, x = .ref d ∧ ((∃ kvs, Rd H1 d (.dK kvs) ∧ ∀ o H2, Lkd H1 d (.dK kvs) o H2 → R (Itk d o kvs) H2) ∨ ∃ kvs, Rd H1 d (.dT kvs) ∧ ∀ o H2, Lkd H1 d (.dT kvs) o H2 → R (Itkt d o kvs) H2)
section
variable {X : Cx} {W : WX} {K : PySem.W.Frag} {ρ ρ' : List Addr} {A A' : AH} {H H' : Hp} {σ : L2.St} {tg e : Expr} {td : TE}
theorem pi_keysL (he : PE X e td) : PI X tg e (iKeysL td) := by
  refine ⟨fun pins s σ H R I h => ?_⟩
  refine thn (he.run pins s σ H _ I h) fun u s1 ⟨x, H1, I1, rx, d, ex, q⟩ => ?_
  subst ex
  obtain rfl : u = Value.ref d := rx
  rcases q with ⟨kvs, hd, q⟩ | ⟨kvs, hd, q⟩
  · have lk : ∃ o H2, Inv X pins σ H2 s1 ∧ H2 d = some (.frz o (.dK kvs)) ∧ Lkd H1 d (.dK kvs) o H2 := by
      rcases hd with hd | ⟨o, hd⟩
      · obtain ⟨od, I2⟩ := I1.lock hd trivial
        exact ⟨od, _, I2, upd_same, .inr ⟨hd, rfl⟩⟩
      · exact ⟨o, _, I1, hd, .inl ⟨rfl, hd⟩⟩
    obtain ⟨o, H2, I2, hd2, l2⟩ := lk
    obtain ⟨hs, hgd, hx, es, ep, vs, hdt, hsz, kv, hm⟩ := I2.frzK hd2
    refine iter_keys hs hgd hx hdt (pi_one (tk := s1.toks) I2 _ (turn_keys _ hdt) ⟨_, Heap.get?_push_size _ rfl, rfl, ?_⟩ (q o H2 l2))
    rw [hsz] <;> rfl
  · have lk : ∃ o H2, Inv X pins σ H2 s1 ∧ H2 d = some (.frz o (.dT kvs)) ∧ Lkd H1 d (.dT kvs) o H2 := by
      rcases hd with hd | ⟨o, hd⟩
      · obtain ⟨od, I2⟩ := I1.lock hd trivial
        exact ⟨od, _, I2, upd_same, .inr ⟨hd, rfl⟩⟩
      · exact ⟨o, _, I1, hd, .inl ⟨rfl, hd⟩⟩
    obtain ⟨o, H2, I2, hd2, l2⟩ := lk
    obtain ⟨hs, hgd, hx, es, ep, hdt, hsz, ent⟩ := I2.frzT hd2
    refine iter_keys hs hgd hx hdt (pi_one (tk := s1.toks) I2 _ (turn_keysT _ hdt) ⟨_, Heap.get?_push_size _ rfl, rfl, ?_⟩ (q o H2 l2))
    rw [hsz] <;> rfl
theorem Step.lock (r : Rep K ρ A H) {d : Addr} {u : HO} {od : Obj} (h : H d = some u) (lk : Lk u) (n : ¬ Lv ρ A d) : Step K ρ A H ρ A (upd H d (.frz od u)) := by
  have kp : Kp (Lv ρ A) H (upd H d (.frz od u)) := fun a o e _ => by
    by_cases ha : a = d
    · subst ha
      rw [h] at e
      cases e
      exact .inr ⟨lk, od, upd_same⟩
    · exact .inl (by rw [upd_ne ha]; exact e)
  refine ⟨⟨r.len, fun i a u' h1 h2 => ?_, r.inj⟩, fun _ _ h => h, kp, fun _ _ _ h => h⟩
  have e := r.obj i a u' h1 h2
  have hne : a ≠ d := fun z => n ⟨i, u', by rw [← z]; exact h1, h2⟩
  rw [upd_ne hne]
  exact RelAO.keep kp (fun _ _ _ h => h) r.tup e
theorem Lkd.step (r : Rep K ρ A H) {d : Addr} {u : HO} {od : Obj} (l : Lkd H d u od H') (lk : Lk u) (n : ¬ Lv ρ A d) : Step K ρ A H ρ A H' ∧ H' d = some (.frz od u) := by
  rcases l with ⟨rfl, h⟩ | ⟨h, rfl⟩
  · exact ⟨Step.refl r, h⟩
  · exact ⟨Step.lock r h lk n, upd_same⟩
theorem keysOf_rel {L : Addr → Prop} : ∀ {xs : List P} {q : List Key}, keysOf xs = some q → RelPs K L H xs (q.map kV)
  | [], q, e => by cases e; simp only [List.map_nil, RelPs]
  | y :: ys, q, e => by
    unfold keysOf at e
    cases h1 : keyOf y with
    | none => rw [h1] at e; cases e
    | some k1 =>
      cases h2 : keysOf ys with
      | none => rw [h1, h2] at e; cases e
      | some ks1 =>
        rw [h1, h2] at e; cases e
        simp only [List.map_cons, RelPs]
        refine ⟨_, _, rfl, ?_, keysOf_rel h2⟩
        cases y with
        | int i => cases h1; simp only [RelP]; rfl
        | str s => cases h1; simp only [RelP]; rfl
        | _ => cases h1
theorem key_rel {L : Addr → Prop} {y : P} {k : Key} (h1 : keyOf y = some k) : RelP K L H y (kV k) := by
  cases y with
  | int i => cases h1; simp only [RelP]; rfl
  | str s => cases h1; simp only [RelP]; rfl
  | _ => cases h1
theorem relKV_at {L : Addr → Prop} : ∀ {kvs : List (P × P)} {l : List (Key × V)}, RelKV K L H kvs l → kvs.length = l.length ∧ ∀ (i : Nat) (p : P), (kvs.map (·.1))[i]? = some p → ∃ k v, l[i]? = some (k, v) ∧ keyOf p = some k
  | [], l, h => by simp only [RelKV] at h; subst h; exact ⟨rfl, fun i p e => by simp at e⟩
  | (k, x) :: r, l, h => by
    simp only [RelKV] at h
    obtain ⟨q, v, w, rfl, hk, _, hr⟩ := h
    obtain ⟨h1, h2⟩ := relKV_at hr
    refine ⟨by simp [h1], fun i p e => ?_⟩
    cases i with
    | zero => simp at e; subst e; exact ⟨q, v, rfl, hk⟩
    | succ i => simp only [List.map_cons, List.getElem?_cons_succ] at e ⊢; exact h2 i p e
theorem relTV_at {L : Addr → Prop} : ∀ {kvs : List (P × P)} {l : List (List Key × V)}, RelTV K L H kvs l → kvs.length = l.length ∧ ∀ (i : Nat) (p : P), (kvs.map (·.1))[i]? = some p → ∃ k v, l[i]? = some (k, v) ∧ tkeyOf p = some k
  | [], l, h => by simp only [RelTV] at h; subst h; exact ⟨rfl, fun i p e => by simp at e⟩
  | (k, x) :: r, l, h => by
    simp only [RelTV] at h
    obtain ⟨q, v, w, rfl, hk, _, hr⟩ := h
    obtain ⟨h1, h2⟩ := relTV_at hr
    refine ⟨by simp [h1], fun i p e => ?_⟩
    cases i with
    | zero => simp at e; subst e; exact ⟨q, v, rfl, hk⟩
    | succ i => simp only [List.map_cons, List.getElem?_cons_succ] at e ⊢; exact h2 i p e
def bDic (a : BE) : BI := fun σ => (a σ).bind fun d A => match d with
  | .p (.dic _ kvs) => some (.val (kvs.map (·.1)) A)
  | _ => none
/-- for k in d, d a dict that is a value -/
theorem i_dic {f : BE} (h : PE X e (tE X.K W f)) : PI X tg e (tI X.K W (bDic f)) := by
  refine (pi_keysL h).imp fun σ H R h => ?_
  refine tG.mono (tG.bind (f := f) h) fun v H1 ⟨ρ1, A1, σD, d, r, e, rd, o⟩ => ?_
  split at o
  · rename_i t kvs
    simp only [RelD, RelP] at rd
    obtain ⟨a, rfl, na, hx⟩ := rd
    refine ⟨a, rfl, ?_⟩
    rcases hx with ⟨_, l, hl, hr⟩ | ⟨_, l, hl, hr⟩
    · refine .inl ⟨l, hl, fun od H2 h2 => ?_⟩
      obtain ⟨s, hd2⟩ := h2.step r trivial na
      obtain ⟨e1, e2⟩ := relKV_at hr
      refine o _ _ _ s fun ρ' A' H' s' => ?_
      have hd3 := s'.keep.at id hd2 na
      refine ⟨fun i p hp => ?_, hd3, by rw [List.length_map, e1]; exact Nat.le_refl _⟩
      obtain ⟨k, v, h3, h4⟩ := e2 i p hp
      refine ⟨⟨hd3, (List.getElem?_eq_some_iff.mp h3).1⟩, fun x H'' ⟨q1, k', v', q2, q3⟩ => ?_⟩
      subst q1 q3
      rw [h3] at q2
      cases q2
      exact ⟨Step.refl s'.rep, key_rel h4⟩
    · refine .inr ⟨l, hl, fun od H2 h2 => ?_⟩
      obtain ⟨s, hd2⟩ := h2.step r trivial na
      obtain ⟨e1, e2⟩ := relTV_at hr
      refine o _ _ _ s fun ρ' A' H' s' => ?_
      have hd3 := s'.keep.at id hd2 na
      refine ⟨fun i p hp => ?_, hd3, by rw [List.length_map, e1]; exact Nat.le_refl _⟩
      obtain ⟨k, v, h3, h4⟩ := e2 i p hp
      refine ⟨⟨hd3, (List.getElem?_eq_some_iff.mp h3).1⟩, fun x H'' ⟨q1, k', v', b, q2, q3, q4⟩ => ?_⟩
      subst q1 q3
      rw [h3] at q2
      cases q2
      refine ⟨Step.refl s'.rep, ?_⟩
      cases p with
      | tup xs =>
        simp only [RelP]
        exact ⟨b, _, rfl, q4, keysOf_rel h4⟩
      | _ => cases h4
  · exact o.elim
end
end PF

/-! text PF31 -/
set_option Elab.async false
set_option linter.all false
set_option maxRecDepth 100000
/-! PF31: texts are compared, whatever they hold. -/
namespace PF
open PySem L2 PySem.Spec PyProof.Rows
section
variable {X : Cx}
theorem op_eqT : OpR X (compareOp .Eq) (fun x y H Q => ∃ i j, x = .str i ∧ y = .str j ∧ Q (.bl (decide (i = j))) H) := by
  intro pins s σ H x y v u Q I rx ry h
  obtain ⟨i, j, rfl, rfl, q⟩ := h
  refine op_eq pins s σ H _ _ v u Q I rx ry ⟨rfl, ?_⟩
  rw [show decide (V.str i = V.str j) = decide (i = j) by simp]
  exact q
theorem op_neT : OpR X (compareOp .NotEq) (fun x y H Q => ∃ i j, x = .str i ∧ y = .str j ∧ Q (.bl (!decide (i = j))) H) := by
  intro pins s σ H x y v u Q I rx ry h
  obtain ⟨i, j, rfl, rfl, q⟩ := h
  refine op_ne pins s σ H _ _ v u Q I rx ry ⟨rfl, ?_⟩
  rw [show decide (V.str i = V.str j) = decide (i = j) by simp]
  exact q
end
end PF

/-! text PM1 -/
set_option linter.all false
/-! PM1: lists of pairs: paths, rings, full nets; pairs without a sequence. -/
namespace PF
section
variable {α : Type} [DecidableEq α] {lt : α → α → Bool}
/-- the lesser one first -/
def inq (lt : α → α → Bool) (p : α × α) : α × α := if lt p.2 p.1 = true then (p.2, p.1) else p
theorem inq_swap (O : Ord lt) (a b : α) : inq lt (b, a) = inq lt (a, b) := by
  unfold inq
  cases h1 : lt a b <;> cases h2 : lt b a
  · have := O.tot _ _ h1 h2; subst this; simp
  · simp
  · simp
  · have := O.asym _ _ h1; rw [h2] at this; cases this
theorem inq_cases (lt : α → α → Bool) (p : α × α) : inq lt p = p ∨ inq lt p = (p.2, p.1) := by
  unfold inq; split
  · exact .inr rfl
  · exact .inl rfl
theorem inq_mem (lt : α → α → Bool) (p : α × α) (x : α) : (x = (inq lt p).1 ∨ x = (inq lt p).2) ↔ (x = p.1 ∨ x = p.2) := by
  rcases inq_cases lt p with e | e <;> rw [e] <;> constructor <;> intro h <;> simpa [or_comm] using h
theorem inq_ne {p : α × α} (h : p.1 ≠ p.2) : (inq lt p).1 ≠ (inq lt p).2 := by
  rcases inq_cases lt p with e | e <;> rw [e]
  · exact h
  · exact Ne.symm h
theorem inq_le (O : Ord lt) (p : α × α) : lt (inq lt p).2 (inq lt p).1 = false := by
  unfold inq; split
  · rename_i h; exact O.asym _ _ h
  · rename_i h; simpa using h
theorem inq_inq (O : Ord lt) (p : α × α) : inq lt (inq lt p) = inq lt p := by
  have h := inq_le O p
  generalize inq lt p = q at h
  unfold inq
  rw [if_neg (by rw [h]; simp)]
theorem inq_iff (O : Ord lt) {p q : α × α} : inq lt p = inq lt q ↔ p = q ∨ p = (q.2, q.1) := by
  constructor
  · intro h
    rcases inq_cases lt p with e | e <;> rcases inq_cases lt q with f | f <;> rw [e, f] at h
    · exact .inl h
    · exact .inr h
    · right; rw [← h]
    · left; have h1 := congrArg Prod.fst h; have h2 := congrArg Prod.snd h; exact Prod.ext h2 h1
  · rintro (h | h)
    · rw [h]
    · rw [h]; exact inq_swap O q.1 q.2
/-- the pairs of neighbours in a list -/
def pathL : List α → List (α × α)
  | x :: y :: r => (x, y) :: pathL (y :: r)
  | _ => []
def ringL (xs : List α) : List (α × α) := pathL (xs ++ xs.take 1)
def fullL : List α → List (α × α)
  | [] => []
  | x :: r => r.map (fun y => (x, y)) ++ fullL r
abbrev nrm (lt : α → α → Bool) (ls : List (α × α)) : List (α × α) := ls.map (inq lt)
theorem pathL_app (l : List α) (a : α) (r : List α) : pathL (l ++ a :: r) = pathL (l ++ [a]) ++ pathL (a :: r) := by
  induction l with
  | nil => simp [pathL]
  | cons x l ih =>
    cases l with
    | nil => simp [pathL]
    | cons y l => simp only [List.cons_append, pathL] at ih ⊢; rw [ih]
theorem mem_pathL {xs : List α} {p : α × α} (h : p ∈ pathL xs) : p.1 ∈ xs ∧ p.2 ∈ xs := by
  induction xs with
  | nil => simp [pathL] at h
  | cons x r ih =>
    cases r with
    | nil => simp [pathL] at h
    | cons y r =>
      simp only [pathL, List.mem_cons] at h
      rcases h with h | h
      · subst h; simp
      · have := ih h; exact ⟨List.mem_cons_of_mem _ this.1, List.mem_cons_of_mem _ this.2⟩
theorem pathL_ne {xs : List α} (nd : xs.Nodup) {p : α × α} (h : p ∈ pathL xs) : p.1 ≠ p.2 := by
  induction xs with
  | nil => simp [pathL] at h
  | cons x r ih =>
    cases r with
    | nil => simp [pathL] at h
    | cons y r =>
      simp only [pathL, List.mem_cons] at h
      have nd' := List.nodup_cons.mp nd
      rcases h with h | h
      · subst h; intro e; exact nd'.1 (by simp at e; simp [e])
      · exact ih nd'.2 h
theorem nrm_mem {ls : List (α × α)} {q : α × α} (h : q ∈ nrm lt ls) : ∃ p ∈ ls, inq lt p = q := by simpa [nrm] using h
theorem pathL_nrm_nodup (O : Ord lt) {xs : List α} (nd : xs.Nodup) : (nrm lt (pathL xs)).Nodup := by
  induction xs with
  | nil => simp [pathL]
  | cons x r ih =>
    cases r with
    | nil => simp [pathL]
    | cons y r =>
      have nd' := List.nodup_cons.mp nd
      simp only [pathL, List.map_cons, List.nodup_cons]
      refine ⟨fun h => ?_, ih nd'.2⟩
      obtain ⟨p, hp, e⟩ := nrm_mem h
      have m := mem_pathL hp
      rcases (inq_iff O).mp e with e | e
      · rw [e] at m; exact nd'.1 m.1
      · rw [e] at m; exact nd'.1 m.2
theorem fullL_mem {xs : List α} {p : α × α} (h : p ∈ fullL xs) : p.1 ∈ xs ∧ p.2 ∈ xs := by
  induction xs with
  | nil => simp [fullL] at h
  | cons x r ih =>
    simp only [fullL, List.mem_append, List.mem_map] at h
    rcases h with ⟨y, hy, e⟩ | h
    · subst e; exact ⟨List.mem_cons_self, List.mem_cons_of_mem _ hy⟩
    · have := ih h; exact ⟨List.mem_cons_of_mem _ this.1, List.mem_cons_of_mem _ this.2⟩
theorem fullL_ne {xs : List α} (nd : xs.Nodup) {p : α × α} (h : p ∈ fullL xs) : p.1 ≠ p.2 := by
  induction xs with
  | nil => simp [fullL] at h
  | cons x r ih =>
    have nd' := List.nodup_cons.mp nd
    simp only [fullL, List.mem_append, List.mem_map] at h
    rcases h with ⟨y, hy, e⟩ | h
    · subst e; intro e; exact nd'.1 (by simp at e; rw [e]; exact hy)
    · exact ih nd'.2 h
theorem fullL_nrm_nodup (O : Ord lt) {xs : List α} (nd : xs.Nodup) : (nrm lt (fullL xs)).Nodup := by
  induction xs with
  | nil => simp [fullL]
  | cons x r ih =>
    have nd' := List.nodup_cons.mp nd
    simp only [fullL, nrm, List.map_append, List.map_map]
    refine List.nodup_append.mpr ⟨?_, ih nd'.2, ?_⟩
    · refine List.Pairwise.map _ ?_ nd'.2
      intro a b hab e
      rcases (inq_iff O).mp e with e | e
      · simp at e; exact hab e
      · simp at e; exact hab (e.2.trans e.1)
    · intro p hp q hq e
      obtain ⟨y, hy, e1⟩ := List.mem_map.mp hp
      obtain ⟨z, hz, e2⟩ := nrm_mem hq
      have m := fullL_mem hz
      rw [← e1] at e
      rw [← e] at e2
      rcases (inq_iff O).mp e2 with e | e
      · rw [e] at m; exact nd'.1 m.1
      · rw [e] at m; exact nd'.1 m.2
/-- a full net does not depend on the sequence -/
theorem fullL_perm (O : Ord lt) {xs ys : List α} (h : xs.Perm ys) : (nrm lt (fullL xs)).Perm (nrm lt (fullL ys)) := by
  induction h with
  | nil => exact .refl _
  | cons x h ih =>
    simp only [fullL, nrm, List.map_append]
    exact ((h.map _).map _).append ih
  | swap x y r =>
    simp only [fullL, nrm, List.map_append, List.map_cons, List.map_map]
    rw [inq_swap O x y]
    simp only [List.cons_append, ← List.append_assoc]
    exact .cons _ (.append List.perm_append_comm (.refl _))
  | trans _ _ a b => exact a.trans b
/-- the full net by each node and those ahead of it -/
def backL : List α → List α → List (α × α)
  | _, [] => []
  | pre, y :: r => pre.map (fun x => (y, x)) ++ backL (pre ++ [y]) r
theorem backL_perm (O : Ord lt) : ∀ (r pre : List α), (nrm lt (backL pre r) ++ nrm lt (fullL pre)).Perm (nrm lt (fullL (pre ++ r)))
  | [], pre => by simp [backL]
  | y :: r, pre => by
    have e : (nrm lt (backL pre (y :: r)) ++ nrm lt (fullL pre)).Perm (nrm lt (backL (pre ++ [y]) r) ++ nrm lt (fullL (y :: pre))) := by
      simp only [backL, fullL, nrm, List.map_append]
      rw [← List.append_assoc]
      exact .append List.perm_append_comm (.refl _)
    refine e.trans ?_
    refine (List.Perm.append (.refl _) (fullL_perm O (ys := pre ++ [y]) (List.perm_append_comm (l₁ := [y])))).trans ?_
    have := backL_perm O r (pre ++ [y])
    rwa [List.append_assoc] at this
theorem backL_full (O : Ord lt) (xs : List α) : (nrm lt (backL [] xs)).Perm (nrm lt (fullL xs)) := by
  have := backL_perm O xs []
  simpa [fullL] using this
/-- the list turned by one -/
theorem ringL_cons (x y : α) (r : List α) : ringL (x :: y :: r) = (x, y) :: pathL (y :: r ++ [x]) := by simp [ringL, pathL]
theorem ringL_rot1 (x y : α) (r : List α) : ringL (y :: r ++ [x]) = pathL (y :: r ++ [x]) ++ [(x, y)] := by
  have e : (y :: r ++ [x]) ++ (y :: r ++ [x]).take 1 = (y :: r) ++ x :: [y] := by simp
  show pathL ((y :: r ++ [x]) ++ (y :: r ++ [x]).take 1) = _
  rw [e, pathL_app]
  rfl
theorem ringL_rot (x : α) (r : List α) : (ringL (r ++ [x])).Perm (ringL (x :: r)) := by
  cases r with
  | nil => exact .refl _
  | cons y r =>
    rw [ringL_rot1, ringL_cons]
    exact List.perm_append_comm
theorem ringL_turn : ∀ (k : Nat) (xs : List α), k ≤ xs.length → (ringL (xs.drop k ++ xs.take k)).Perm (ringL xs)
  | 0, xs, _ => by simp
  | k + 1, xs, h => by
    have ih := ringL_turn k xs (by omega)
    have hk : k < xs.length := h
    have e1 : xs.drop k = xs[k] :: xs.drop (k + 1) := List.drop_eq_getElem_cons hk
    have e2 : xs.take (k + 1) = xs.take k ++ [xs[k]] := by rw [List.take_succ_eq_append_getElem hk]
    rw [e1] at ih
    rw [e2, ← List.append_assoc]
    exact (ringL_rot _ _).trans ih
theorem pathL_rev : ∀ xs : List α, pathL xs.reverse = ((pathL xs).map fun p => (p.2, p.1)).reverse
  | [] => rfl
  | [x] => rfl
  | x :: y :: r => by
    have ih := pathL_rev (y :: r)
    rw [List.reverse_cons] at ih ⊢
    rw [List.reverse_cons, List.append_assoc]
    show pathL (r.reverse ++ y :: [x]) = _
    rw [pathL_app, ih]
    simp [pathL]
theorem nrm_swap (O : Ord lt) (ls : List (α × α)) : nrm lt (ls.map fun p => (p.2, p.1)) = nrm lt ls := by
  simp only [nrm, List.map_map]
  refine List.map_congr_left fun p _ => ?_
  exact inq_swap O p.1 p.2
theorem pathL_rev_perm (O : Ord lt) (xs : List α) : (nrm lt (pathL xs.reverse)).Perm (nrm lt (pathL xs)) := by
  rw [pathL_rev, nrm, List.map_reverse]
  refine (List.reverse_perm _).trans ?_
  rw [show (List.map (inq lt) (List.map (fun p => (p.2, p.1)) (pathL xs))) = nrm lt (pathL xs) from nrm_swap O _]
theorem ringL_rev_perm (O : Ord lt) (xs : List α) : (nrm lt (ringL xs.reverse)).Perm (nrm lt (ringL xs)) := by
  cases xs with
  | nil => exact .refl _
  | cons x r =>
    rw [List.reverse_cons]
    refine ((ringL_rot x r.reverse).map _).trans ?_
    have e : ringL (x :: r.reverse) = pathL ((x :: r) ++ [x]).reverse := by simp [ringL]
    rw [e]
    exact pathL_rev_perm O _
theorem mem_ringL {xs : List α} {p : α × α} (h : p ∈ ringL xs) : p.1 ∈ xs ∧ p.2 ∈ xs := by
  have := mem_pathL h
  have hm : ∀ z, z ∈ xs ++ xs.take 1 → z ∈ xs := fun z hz => (List.mem_append.mp hz).elim id fun hz => List.mem_of_mem_take hz
  exact ⟨hm _ this.1, hm _ this.2⟩
/-- a ring is a path and one link more -/
theorem ringL_last (x : α) (r : List α) (hr : r ≠ []) : ringL (x :: r) = pathL (x :: r) ++ [(r.getLast hr, x)] := by
  have e : (x :: r) ++ (x :: r).take 1 = (x :: r.dropLast) ++ r.getLast hr :: [x] := by
    have := List.dropLast_concat_getLast hr
    simp only [List.take_succ_cons, List.take_zero, List.cons_append]
    conv => lhs; rw [← this]
    simp
  show pathL ((x :: r) ++ (x :: r).take 1) = _
  rw [e, pathL_app]
  have : (x :: r.dropLast) ++ [r.getLast hr] = x :: r := by
    rw [List.cons_append, List.dropLast_concat_getLast hr]
  rw [this]
  rfl
theorem last_not_path (O : Ord lt) {x y z : α} {r : List α} (nd : (x :: y :: z :: r).Nodup) : inq lt ((y :: z :: r).getLast (by simp), x) ∉ nrm lt (pathL (x :: y :: z :: r)) := by
  intro h
  obtain ⟨p, hp, e⟩ := nrm_mem h
  have nd' := List.nodup_cons.mp nd
  have nd2 := List.nodup_cons.mp nd'.2
  have hl : (y :: z :: r).getLast (by simp) ≠ y := by
    rw [List.getLast_cons (by simp)]
    intro e; exact nd2.1 (e ▸ List.getLast_mem (l := z :: r) (by simp))
  simp only [pathL, List.mem_cons] at hp
  rcases hp with hp | hp
  · subst hp
    rcases (inq_iff O).mp e with e | e
    · have := congrArg Prod.snd e; simp at this; exact nd'.1 (by simp [← this])
    · have := congrArg Prod.snd e; simp only at this; exact hl this.symm
  · have m := mem_pathL (xs := y :: z :: r) (by simpa [pathL] using hp)
    rcases (inq_iff O).mp e with e | e
    · rw [e] at m; exact nd'.1 m.2
    · rw [e] at m; exact nd'.1 m.1
theorem ringL_nrm_nodup (O : Ord lt) {xs : List α} (nd : xs.Nodup) (h3 : 3 ≤ xs.length) : (nrm lt (ringL xs)).Nodup := by
  match xs, nd, h3 with
  | x :: y :: z :: r, nd, _ =>
    rw [ringL_last x (y :: z :: r) (by simp), nrm, List.map_append]
    refine List.nodup_append.mpr ⟨pathL_nrm_nodup O nd, by simp, ?_⟩
    intro p hp q hq e
    simp only [List.map_cons, List.map_nil, List.mem_singleton] at hq
    subst hq; subst e
    exact last_not_path O nd hp
theorem ringL_ne {xs : List α} (nd : xs.Nodup) (h2 : 2 ≤ xs.length) {p : α × α} (h : p ∈ ringL xs) : p.1 ≠ p.2 := by
  match xs, nd, h2 with
  | x :: y :: r, nd, _ =>
    rw [ringL_last x (y :: r) (by simp)] at h
    rcases List.mem_append.mp h with h | h
    · exact pathL_ne nd h
    · simp only [List.mem_singleton] at h
      subst h
      intro e
      have e : (y :: r).getLast (by simp) = x := e
      exact (List.nodup_cons.mp nd).1 (e ▸ List.getLast_mem (l := y :: r) (by simp))
/-- without its last link a ring is a path -/
theorem ring_less (O : Ord lt) {x : α} {r : List α} (hr : 2 ≤ r.length) (hn : r ≠ []) (nd : (x :: r).Nodup) {ls : List (α × α)} (hp : ls.Perm (nrm lt (ringL (x :: r)))) :
    (ls.filter fun q => decide (q ≠ inq lt (x, r.getLast hn))).Perm (nrm lt (pathL (x :: r))) := by
  refine (hp.filter _).trans ?_
  match r, hr, hn, nd with
  | y :: z :: r, _, hn, nd =>
    rw [ringL_last x (y :: z :: r) hn, nrm, List.map_append, List.filter_append, List.map_cons, List.map_nil, inq_swap O x]
    rw [List.filter_cons_of_neg (by simp), List.filter_nil, List.append_nil]
    rw [List.filter_eq_self.mpr]
    intro q hq
    simp only [decide_eq_true_eq]
    intro e
    rw [e, ← inq_swap O] at hq
    exact last_not_path O nd hq
theorem three_full (O : Ord lt) (a b c : α) : (nrm lt (ringL [a, b, c])).Perm (nrm lt (fullL [a, b, c])) := by
  simp only [ringL, pathL, fullL, nrm, List.take_succ_cons, List.take_zero, List.cons_append, List.nil_append, List.map_cons, List.map_nil, List.map_append]
  rw [inq_swap O a c]
  exact .cons _ (List.perm_append_comm (l₁ := [inq lt (b, c)]) (l₂ := [inq lt (a, c)]))
/-! ### two nodes become one -/
theorem pathL_map (f : α → α) : ∀ l : List α, (pathL l).map (fun p => (f p.1, f p.2)) = pathL (l.map f)
  | [] => rfl
  | [x] => rfl
  | x :: y :: r => by
    have := pathL_map f (y :: r)
    simp only [pathL, List.map_cons] at this ⊢
    rw [this]
theorem inq_self (lt : α → α → Bool) (m : α) : inq lt (m, m) = (m, m) := by
  rcases inq_cases lt (m, m) with e | e <;> exact e
theorem contract (O : Ord lt) {a b c : α} {r : List α} (nd : (a :: b :: c :: r).Nodup) (hr : r ≠ []) {f : α → α}
    (hf : f = fun z => if z = (inq lt (b, c)).2 then (inq lt (b, c)).1 else z) {ls : List (α × α)} (hp : ls.Perm (nrm lt (ringL (a :: b :: c :: r)))) :
    (ls.map fun p => inq lt (f p.1, f p.2)).Nodup ∧
    ((ls.map fun p => inq lt (f p.1, f p.2)).filter fun q => decide (q ≠ ((inq lt (b, c)).1, (inq lt (b, c)).1))).Perm (nrm lt (ringL (a :: (inq lt (b, c)).1 :: r))) := by
  obtain ⟨na, nd1⟩ := List.nodup_cons.mp nd
  obtain ⟨nb, nd2⟩ := List.nodup_cons.mp nd1
  obtain ⟨nc, nd3⟩ := List.nodup_cons.mp nd2
  have nbc : b ≠ c := fun e => nb (by simp [e])
  have nab : a ≠ b := fun e => na (by simp [e])
  have nac : a ≠ c := fun e => na (by simp [e])
  have hm : (inq lt (b, c)).1 = b ∨ (inq lt (b, c)).1 = c := by rcases inq_cases lt (b, c) with e | e <;> rw [e] <;> simp
  have fb : f b = (inq lt (b, c)).1 := by
    rcases inq_cases lt (b, c) with e | e <;> rw [hf, e] <;> simp [nbc]
  have fc : f c = (inq lt (b, c)).1 := by
    rcases inq_cases lt (b, c) with e | e <;> rw [hf, e] <;> simp [Ne.symm nbc]
  have fo : ∀ z, z ≠ b → z ≠ c → f z = z := fun z h1 h2 => by
    rcases inq_cases lt (b, c) with e | e <;> rw [hf, e] <;> simp [h1, h2]
  generalize (inq lt (b, c)).1 = m at hm fb fc ⊢
  have fa := fo a nab nac
  have fr : r.map f = r := by
    conv => rhs; rw [← List.map_id r]
    refine List.map_congr_left fun z hz => fo z ?_ ?_
    · intro e; exact nb (by simp [← e, hz])
    · intro e; exact nc (by simp [← e, hz])
  have nm : m ∉ r := by
    rcases hm with e | e <;> rw [e]
    · intro h; exact nb (by simp [h])
    · exact nc
  have nam : a ≠ m := by
    rcases hm with e | e
    · rw [e]; exact nab
    · rw [e]; exact nac
  have nd' : (a :: m :: r).Nodup := by
    refine List.nodup_cons.mpr ⟨?_, List.nodup_cons.mpr ⟨nm, nd3⟩⟩
    intro h
    rcases List.mem_cons.mp h with h | h
    · exact nam h
    · exact na (by simp [h])
  have e1 : ((nrm lt (ringL (a :: b :: c :: r))).map fun p => inq lt (f p.1, f p.2)) = inq lt (a, m) :: (m, m) :: nrm lt (pathL (m :: r ++ [a])) := by
    have e2 : ((nrm lt (ringL (a :: b :: c :: r))).map fun p => inq lt (f p.1, f p.2)) = nrm lt ((ringL (a :: b :: c :: r)).map fun p => (f p.1, f p.2)) := by
      simp only [nrm, List.map_map]
      refine List.map_congr_left fun p _ => ?_
      rcases inq_cases lt p with e | e
      · simp only [Function.comp_apply, e]
      · simp only [Function.comp_apply, e]
        exact inq_swap O (f p.1) (f p.2)
    rw [e2]
    show nrm lt ((pathL ((a :: b :: c :: r) ++ [a])).map fun p => (f p.1, f p.2)) = _
    rw [pathL_map]
    simp only [List.map_append, List.map_cons, List.map_nil, fa, fb, fc, fr, List.cons_append, pathL, nrm, inq_self]
  have e3 : nrm lt (ringL (a :: m :: r)) = inq lt (a, m) :: nrm lt (pathL (m :: r ++ [a])) := by
    rw [ringL_cons]; rfl
  have hp' := hp.map (fun p => inq lt (f p.1, f p.2))
  rw [e1] at hp'
  have nr : (nrm lt (ringL (a :: m :: r))).Nodup := ringL_nrm_nodup O nd' (by
    cases r with
    | nil => exact absurd rfl hr
    | cons z r => simp)
  have nomm : ∀ q ∈ nrm lt (ringL (a :: m :: r)), q ≠ (m, m) := fun q hq e => by
    obtain ⟨p, hp, e4⟩ := nrm_mem hq
    have := inq_ne (lt := lt) (ringL_ne nd' (by simp) hp)
    rw [e4, e] at this
    exact this rfl
  rw [e3] at nr nomm ⊢
  obtain ⟨n1, n2⟩ := List.nodup_cons.mp nr
  constructor
  · refine hp'.nodup_iff.mpr ?_
    refine (List.Perm.swap (m, m) (inq lt (a, m)) _).symm.nodup_iff.mp ?_
    exact List.nodup_cons.mpr ⟨fun h => nomm _ h rfl, nr⟩
  · refine (hp'.filter _).trans ?_
    rw [List.filter_cons_of_pos (by simpa using nomm _ List.mem_cons_self), List.filter_cons_of_neg (by simp), List.filter_eq_self.mpr]
    intro q hq
    simpa using nomm q (List.mem_cons_of_mem _ hq)
end
end PF

/-! text PX1 -/
set_option Elab.async false
set_option linter.all false
set_option maxRecDepth 100000
/-! PX1: how readings are reckoned out: loops, comprehensions, calls. -/
namespace PF
open PySem L2 PySem.Spec PyProof.Rows

theorem loopF_ex {g : BG} {b : BS} (I : Nat → EnvD → AH → Prop) {xs : List P} {σ : EnvD} {A : AH} (h0 : I 0 σ A)
    (h : ∀ i x σ A, xs[i]? = some x → I i σ A → ∃ σ1 A1 σ2 A2, g (.p x) σ A = some (σ1, A1) ∧ b σ1 A1 = some (.nx σ2 A2) ∧ I (i + 1) σ2 A2) :
    ∃ σ' A', loopF g b xs σ A = some (.nx σ' A') ∧ I xs.length σ' A' := by
  induction xs generalizing I σ A with
  | nil => exact ⟨σ, A, rfl, h0⟩
  | cons x r ih =>
    obtain ⟨σ1, A1, σ2, A2, e1, e2, h1⟩ := h 0 x σ A rfl h0
    obtain ⟨σ', A', e3, h2⟩ := ih (fun i => I (i + 1)) (σ := σ2) (A := A2) h1 fun i y σ A hy hI => h (i + 1) y σ A hy hI
    refine ⟨σ', A', ?_, h2⟩
    unfold loopF
    rw [e1]
    simp only [e2]
    exact e3
theorem loopB_ex {g : BG} {tt : BT} {body : EnvD → AH → Option AH} {σ : EnvD} (I : Nat → AH → Prop) {xs : List P} {A : AH} (h0 : I 0 A)
    (h : ∀ i x A, xs[i]? = some x → I i A → ∃ σ1 A1 A2, g (.p x) σ A = some (σ1, A1) ∧ ((tt σ1 A1 = some (.val false A2) ∧ I (i + 1) A2) ∨ ∃ A3, tt σ1 A1 = some (.val true A2) ∧ body σ1 A2 = some A3 ∧ I (i + 1) A3)) :
    ∃ A', loopB g tt body xs σ A = some A' ∧ I xs.length A' := by
  induction xs generalizing I A with
  | nil => exact ⟨A, rfl, h0⟩
  | cons x r ih =>
    obtain ⟨σ1, A1, A2, e1, h1⟩ := h 0 x A rfl h0
    have next : ∀ B, I 1 B → ∃ A', loopB g tt body r σ B = some A' ∧ I (r.length + 1) A' := fun B hB =>
      ih (fun i => I (i + 1)) (A := B) hB fun i y A hy hI => h (i + 1) y A hy hI
    rcases h1 with ⟨e2, h1⟩ | ⟨A3, e2, e3, h1⟩
    · obtain ⟨A', e4, h2⟩ := next _ h1
      refine ⟨A', ?_, h2⟩
      unfold loopB
      rw [e1]
      simp only [e2]
      exact e4
    · obtain ⟨A', e4, h2⟩ := next _ h1
      refine ⟨A', ?_, h2⟩
      unfold loopB
      rw [e1]
      simp only [e2, e3]
      exact e4
/-- a list's part, as a list comprehension goes -/
theorem bLc_ex {f : BI} {g : BG} {tt : BT} {te : BE} {vs : List Nat} {σ : EnvD} {A A1 : AH} {xs : List P} (hf : f σ A = some (.val xs A1)) (hl : xs.length ≤ sizeLine)
    (J : Nat → List P → AH → Prop) (h0 : J 0 [] A1)
    (h : ∀ i x acc B, xs[i]? = some x → acc.length ≤ i → J i acc B → B.length = A1.length → ∃ σ1 b B2, g (.p x) (wipeD σ vs) (B ++ [some (.lst acc)]) = some (σ1, B ++ [some (.lst acc)]) ∧
      tt σ1 (B ++ [some (.lst acc)]) = some (.val b (B2 ++ [some (.lst acc)])) ∧ B2.length = A1.length ∧ ((b = false ∧ J (i + 1) acc B2) ∨ (b = true ∧ ∃ y B3, te σ1 (B2 ++ [some (.lst acc)]) = some (.val (.p y) (B3 ++ [some (.lst acc)])) ∧ B3.length = A1.length ∧ J (i + 1) (acc ++ [y]) B3))) :
    ∃ acc B, bLc f g tt te vs σ A = some (.val (.p (.lst acc)) B) ∧ J xs.length acc B ∧ B.length = A1.length := by
  have key := loopB_ex (g := g) (tt := tt) (body := addL A1.length te) (σ := wipeD σ vs) (fun i C => ∃ acc B, C = B ++ [some (.lst acc)] ∧ B.length = A1.length ∧ acc.length ≤ i ∧ J i acc B) (xs := xs) (A := A1 ++ [some (.lst [])])
    ⟨[], A1, rfl, rfl, Nat.le_refl _, h0⟩ (by
      rintro i x C hx ⟨acc, B, rfl, hB, hacc, hJ⟩
      obtain ⟨σ1, b, B2, e1, e2, hB2, h3⟩ := h i x acc B hx hacc hJ hB
      refine ⟨σ1, _, B2 ++ [some (.lst acc)], e1, ?_⟩
      rcases h3 with ⟨rfl, hJ'⟩ | ⟨rfl, y, B3, e3, hB3, hJ'⟩
      · exact .inl ⟨e2, acc, B2, rfl, hB2, by omega, hJ'⟩
      · refine .inr ⟨B3 ++ [some (.lst (acc ++ [y]))], e2, ?_, acc ++ [y], B3, rfl, hB3, by simp; omega, hJ'⟩
        unfold addL
        rw [e3]
        have hi : i < xs.length := (List.getElem?_eq_some_iff.mp hx).1
        have hlt : acc.length < sizeLine := by omega
        simp only [List.getElem?_append_right (Nat.le_of_eq hB3), hB3, Nat.sub_self, List.getElem?_cons_zero, hlt, if_true]
        rw [List.set_append_right _ _ (by omega), hB3, Nat.sub_self]
        rfl)
  obtain ⟨C, e, acc, B, rfl, hB, _, hJ⟩ := key
  refine ⟨acc, B, ?_, hJ, hB⟩
  unfold bLc M.bind
  rw [hf]
  simp only [e, endC]
  rw [List.getElem?_append_right (by omega)]
  simp only [hB, Nat.sub_self, List.getElem?_cons_zero, frozen]
  rw [← hB, List.take_left']
  rfl

theorem addL_ok {te : BE} {σ : EnvD} {A : AH} {acc : List P} {y : P} (h : te σ (A ++ [some (.lst acc)]) = some (.val (.p y) (A ++ [some (.lst acc)]))) (hl : acc.length < sizeLine) :
    addL A.length te σ (A ++ [some (.lst acc)]) = some (A ++ [some (.lst (acc ++ [y]))]) := by
  unfold addL
  rw [h]
  simp only [List.getElem?_append_right (Nat.le_refl _), Nat.sub_self, List.getElem?_cons_zero, hl, if_true]
  rw [List.set_append_right _ _ (Nat.le_refl _), Nat.sub_self]
  rfl
/-- a comprehension that touches nothing -/
theorem loopB_pure {g : BG} {tt : BT} {te : BE} {σ : EnvD} {A : AH} {p : P → Bool} {F : P → P} : ∀ {xs : List P} {acc : List P},
    (∀ x ∈ xs, ∀ acc, ∃ σ1, g (.p x) σ (A ++ [some (.lst acc)]) = some (σ1, A ++ [some (.lst acc)]) ∧ tt σ1 (A ++ [some (.lst acc)]) = some (.val (p x) (A ++ [some (.lst acc)])) ∧
      (p x = true → te σ1 (A ++ [some (.lst acc)]) = some (.val (.p (F x)) (A ++ [some (.lst acc)])))) → acc.length + xs.length ≤ sizeLine →
    loopB g tt (addL A.length te) xs σ (A ++ [some (.lst acc)]) = some (A ++ [some (.lst (acc ++ (xs.filter p).map F))])
  | [], acc, _, _ => by simp [loopB]
  | x :: r, acc, h, hl => by
    obtain ⟨σ1, e1, e2, e3⟩ := h x List.mem_cons_self acc
    have hr := fun y hy => h y (List.mem_cons_of_mem _ hy)
    simp only [List.length_cons] at hl
    unfold loopB
    rw [e1]
    simp only [e2]
    cases hp : p x with
    | false =>
      simp only []
      rw [loopB_pure hr (by omega), List.filter_cons_of_neg (by simp [hp])]
    | true =>
      simp only []
      rw [addL_ok (e3 hp) (by omega)]
      simp only []
      rw [loopB_pure hr (by simp; omega), List.filter_cons_of_pos hp]
      simp
theorem endC_lst {A : AH} {o : AO} : endC A.length (some (A ++ [some o])) = some (.val (.p (frozen o)) A) := by
  unfold endC
  simp only [List.getElem?_append_right (Nat.le_refl _), Nat.sub_self, List.getElem?_cons_zero]
  rw [List.take_left]
theorem bLc_pure {f : BI} {g : BG} {tt : BT} {te : BE} {vs : List Nat} {σ : EnvD} {A A1 : AH} {xs : List P} (p : P → Bool) (F : P → P) (hf : f σ A = some (.val xs A1)) (hl : xs.length ≤ sizeLine)
    (h : ∀ x ∈ xs, ∀ acc, ∃ σ1, g (.p x) (wipeD σ vs) (A1 ++ [some (.lst acc)]) = some (σ1, A1 ++ [some (.lst acc)]) ∧ tt σ1 (A1 ++ [some (.lst acc)]) = some (.val (p x) (A1 ++ [some (.lst acc)])) ∧
      (p x = true → te σ1 (A1 ++ [some (.lst acc)]) = some (.val (.p (F x)) (A1 ++ [some (.lst acc)])))) :
    bLc f g tt te vs σ A = some (.val (.p (.lst ((xs.filter p).map F))) A1) := by
  unfold bLc M.bind
  rw [hf]
  simp only [loopB_pure (acc := []) h (by simpa using hl), List.nil_append, endC_lst, frozen]
theorem bLc_map {f : BI} {g : BG} {te : BE} {vs : List Nat} {σ : EnvD} {A A1 : AH} {xs : List P} (F : P → P) (hf : f σ A = some (.val xs A1)) (hl : xs.length ≤ sizeLine)
    (h : ∀ x ∈ xs, ∀ acc, ∃ σ1, g (.p x) (wipeD σ vs) (A1 ++ [some (.lst acc)]) = some (σ1, A1 ++ [some (.lst acc)]) ∧ te σ1 (A1 ++ [some (.lst acc)]) = some (.val (.p (F x)) (A1 ++ [some (.lst acc)]))) :
    bLc f g bYes te vs σ A = some (.val (.p (.lst (xs.map F))) A1) := by
  have := bLc_pure (f := f) (g := g) (tt := bYes) (te := te) (vs := vs) (fun _ => true) F hf hl fun x hx acc => by
    obtain ⟨σ1, e1, e2⟩ := h x hx acc
    exact ⟨σ1, e1, rfl, fun _ => e2⟩
  rw [this, List.filter_eq_self.mpr (fun _ _ => rfl)]
/-- two clauses -/
theorem bLc2_map {f : BI} {g : BG} {f1 : BI} {g1 : BG} {te : BE} {vs vs1 : List Nat} {σ : EnvD} {A A1 : AH} {xs : List P} (G : P → List P) (F : P → P → P) (hf : f σ A = some (.val xs A1)) (hl : (xs.flatMap fun x => (G x).map (F x)).length ≤ sizeLine)
    (h : ∀ x ∈ xs, ∀ acc, ∃ σ1, g (.p x) (wipeD σ vs) (A1 ++ [some (.lst acc)]) = some (σ1, A1 ++ [some (.lst acc)]) ∧ f1 σ1 (A1 ++ [some (.lst acc)]) = some (.val (G x) (A1 ++ [some (.lst acc)])) ∧
      ∀ y ∈ G x, ∀ acc, ∃ σ2, g1 (.p y) (wipeD σ1 vs1) (A1 ++ [some (.lst acc)]) = some (σ2, A1 ++ [some (.lst acc)]) ∧ te σ2 (A1 ++ [some (.lst acc)]) = some (.val (.p (F x y)) (A1 ++ [some (.lst acc)]))) :
    bLc2 f g bYes f1 g1 bYes te vs vs1 σ A = some (.val (.p (.lst (xs.flatMap fun x => (G x).map (F x)))) A1) := by
  have key : ∀ (ys : List P) (acc : List P), (∀ x ∈ ys, x ∈ xs) → acc.length + (ys.flatMap fun x => (G x).map (F x)).length ≤ sizeLine →
      loopB g bYes (innerB f1 g1 bYes vs1 (addL A1.length te)) ys (wipeD σ vs) (A1 ++ [some (.lst acc)]) = some (A1 ++ [some (.lst (acc ++ ys.flatMap fun x => (G x).map (F x)))]) := by
    intro ys
    induction ys with
    | nil => intro acc _ _; simp [loopB]
    | cons x r ih =>
      intro acc hm hl
      obtain ⟨σ1, e1, e2, e3⟩ := h x (hm x List.mem_cons_self) acc
      simp only [List.flatMap_cons, List.length_append, List.length_map] at hl
      unfold loopB
      rw [e1]
      simp only [bYes, M.ret, innerB]
      rw [e2]
      simp only []
      have e4 := loopB_pure (g := g1) (tt := bYes) (te := te) (σ := wipeD σ1 vs1) (A := A1) (p := fun _ => true) (F := F x) (xs := G x) (acc := acc) (fun y hy acc => by
        obtain ⟨σ2, a1, a2⟩ := e3 y hy acc
        exact ⟨σ2, a1, rfl, fun _ => a2⟩) (by omega)
      have e4 : loopB g1 bYes (addL A1.length te) (G x) (wipeD σ1 vs1) (A1 ++ [some (.lst acc)]) = some (A1 ++ [some (.lst (acc ++ (G x).map (F x)))]) := by
        rw [e4, List.filter_eq_self.mpr (fun _ _ => rfl)]
      rw [e4]
      simp only []
      have := ih (acc ++ (G x).map (F x)) (fun y hy => hm y (List.mem_cons_of_mem _ hy)) (by simp only [List.length_append, List.length_map]; omega)
      rw [this]
      simp
  unfold bLc2 M.bind
  rw [hf]
  simp only [key xs [] (fun _ h => h) (by simpa using hl), List.nil_append, endC_lst, frozen]
theorem putD_new {t : Bool} {kvs : List (P × P)} {k x : P} (h : ∀ kv ∈ kvs, dKey t kv.1 ≠ dKey t k) : putD t kvs k x = kvs ++ [(k, x)] := by
  unfold putD
  rw [if_neg]
  simp only [List.any_eq_true, decide_eq_true_eq, not_exists, not_and]
  exact h
/-- a dict comprehension whose keys differ -/
theorem bDc_map {t : Bool} {f : BI} {g : BG} {tk tv : BE} {vs : List Nat} {σ : EnvD} {A A1 : AH} {xs : List P} (F G : P → P) (hf : f σ A = some (.val xs A1)) (hl : xs.length ≤ sizeLine)
    (hk : ∀ x ∈ xs, (dKey t (F x)).isSome = true) (nd : (xs.map fun x => dKey t (F x)).Nodup)
    (h : ∀ x ∈ xs, ∀ acc, ∃ σ1, g (.p x) (wipeD σ vs) (A1 ++ [some (.dic t acc)]) = some (σ1, A1 ++ [some (.dic t acc)]) ∧ tk σ1 (A1 ++ [some (.dic t acc)]) = some (.val (.p (F x)) (A1 ++ [some (.dic t acc)])) ∧ tv σ1 (A1 ++ [some (.dic t acc)]) = some (.val (.p (G x)) (A1 ++ [some (.dic t acc)]))) :
    bDc t f g bYes tk tv vs σ A = some (.val (.p (.dic t (xs.map fun x => (F x, G x)))) A1) := by
  have key : ∀ (ys : List P) (acc : List (P × P)), (∀ x ∈ ys, x ∈ xs) → acc.length + ys.length ≤ sizeLine → (ys.map fun x => dKey t (F x)).Nodup → (∀ kv ∈ acc, ∀ y ∈ ys, dKey t kv.1 ≠ dKey t (F y)) →
      loopB g bYes (addD A1.length tk tv) ys (wipeD σ vs) (A1 ++ [some (.dic t acc)]) = some (A1 ++ [some (.dic t (acc ++ ys.map fun x => (F x, G x)))]) := by
    intro ys
    induction ys with
    | nil => intro acc _ _ _ _; simp [loopB]
    | cons x r ih =>
      intro acc hm hl nd hn
      obtain ⟨σ1, e1, e2, e3⟩ := h x (hm x List.mem_cons_self) acc
      simp only [List.map_cons, List.nodup_cons] at nd
      simp only [List.length_cons] at hl
      have eP : putD t acc (F x) (G x) = acc ++ [(F x, G x)] := putD_new fun kv hkv => hn kv hkv x List.mem_cons_self
      have e4 : addD A1.length tk tv σ1 (A1 ++ [some (.dic t acc)]) = some (A1 ++ [some (.dic t (acc ++ [(F x, G x)]))]) := by
        unfold addD
        rw [e2]
        simp only [e3]
        unfold putAt
        simp only [List.getElem?_append_right (Nat.le_refl _), Nat.sub_self, List.getElem?_cons_zero]
        rw [if_pos ⟨hk x (hm x List.mem_cons_self), by omega⟩, List.set_append_right _ _ (Nat.le_refl _), Nat.sub_self, eP]
        rfl
      unfold loopB
      rw [e1]
      simp only [bYes, M.ret]
      rw [e4]
      simp only []
      have := ih (acc ++ [(F x, G x)]) (fun y hy => hm y (List.mem_cons_of_mem _ hy)) (by simp only [List.length_append, List.length_singleton]; omega) nd.2 (by
        intro kv hkv y hy
        rcases List.mem_append.mp hkv with hkv | hkv
        · exact hn kv hkv y (List.mem_cons_of_mem _ hy)
        · simp only [List.mem_singleton] at hkv
          subst hkv
          intro e
          exact nd.1 (List.mem_map.mpr ⟨y, hy, e.symm⟩))
      rw [this]
      simp
  unfold bDc M.bind
  rw [hf]
  simp only [key xs [] (fun _ h => h) (by simpa using hl) nd (by intro kv h; cases h), List.nil_append, endC_lst, frozen]
/-- a def's end -/
theorem defF_p {n m : Nat} {b : BS} {ds : List D} {A A' : AH} {x : P} (hn : ds.length = n) (h : b (startD m ds) A = some (.rt (.p x) A')) : defF n m b ds A = some (.val (.p x) (A'.take A.length)) := by
  unfold defF mkF
  rw [if_pos hn, h]
  rfl
theorem defF_p0 {n m : Nat} {b : BS} {ds : List D} {A : AH} {x : P} (hn : ds.length = n) (h : b (startD m ds) A = some (.rt (.p x) A)) : defF n m b ds A = some (.val (.p x) A) := by
  rw [defF_p hn h, List.take_length]
theorem defF_nx {n m : Nat} {b : BS} {ds : List D} {A A' : AH} {σ : EnvD} (hn : ds.length = n) (h : b (startD m ds) A = some (.nx σ A')) : defF n m b ds A = some (.val (.p .non) (A'.take A.length)) := by
  unfold defF mkF
  rw [if_pos hn, h]
/-! ### steps -/
theorem sForE_nx {f : BI} {g : BG} {b u : BS} {σ σ2 : EnvD} {A A1 A2 : AH} {xs : List P} (hf : f σ A = some (.val xs A1)) (h : loopF g b xs σ A1 = some (.nx σ2 A2)) : sForE f g b u σ A = u σ2 A2 := by
  unfold sForE; rw [hf]; simp only [h]
theorem sFor_nx {f : BI} {g : BG} {b : BS} {σ σ2 : EnvD} {A A1 A2 : AH} {xs : List P} (hf : f σ A = some (.val xs A1)) (h : loopF g b xs σ A1 = some (.nx σ2 A2)) : sFor f g b σ A = some (.nx σ2 A2) := by
  unfold sFor; rw [sForE_nx hf h]; rfl
theorem sSeq_nx {f g : BS} {σ σ' : EnvD} {A A' : AH} (h : f σ A = some (.nx σ' A')) : sSeq f g σ A = g σ' A' := by unfold sSeq; rw [h]
theorem sSeq_rt {f g : BS} {σ : EnvD} {A A' : AH} {d : D} (h : f σ A = some (.rt d A')) : sSeq f g σ A = some (.rt d A') := by unfold sSeq; rw [h]
theorem sizeLine_eq : sizeLine = 16777216 := rfl
def Nx (r : Option SR) (Q : EnvD → AH → Prop) : Prop := match r with
  | some (.nx σ A) => Q σ A
  | _ => False
def Gt (r : Option (EnvD × AH)) (Q : EnvD → AH → Prop) : Prop := match r with
  | some (σ, A) => Q σ A
  | none => False
def Vl {α : Type} (r : Option (Res α)) (Q : α → AH → Prop) : Prop := match r with
  | some (.val a A) => Q a A
  | _ => False
theorem Nx.ex {r : Option SR} {Q : EnvD → AH → Prop} (h : Nx r Q) : ∃ σ A, r = some (.nx σ A) ∧ Q σ A := by
  match r, h with
  | some (.nx σ A), h => exact ⟨σ, A, rfl, h⟩
theorem Gt.ex {r : Option (EnvD × AH)} {Q : EnvD → AH → Prop} (h : Gt r Q) : ∃ σ A, r = some (σ, A) ∧ Q σ A := by
  match r, h with
  | some (σ, A), h => exact ⟨σ, A, rfl, h⟩
theorem Vl.ex {α : Type} {r : Option (Res α)} {Q : α → AH → Prop} (h : Vl r Q) : ∃ a A, r = some (.val a A) ∧ Q a A := by
  match r, h with
  | some (.val a A), h => exact ⟨a, A, rfl, h⟩
/-- a loop by its invariant -/
theorem loop_inv {g : BG} {b : BS} (I : Nat → EnvD → AH → Prop) {xs : List P} {σ : EnvD} {A : AH} (h0 : I 0 σ A)
    (h : ∀ i x σ A, xs[i]? = some x → I i σ A → Gt (g (.p x) σ A) fun σ1 A1 => Nx (b σ1 A1) (I (i + 1))) :
    ∃ σ' A', loopF g b xs σ A = some (.nx σ' A') ∧ I xs.length σ' A' :=
  loopF_ex I h0 fun i x σ A hx hI => by
    obtain ⟨σ1, A1, e1, h1⟩ := (h i x σ A hx hI).ex
    obtain ⟨σ2, A2, e2, h2⟩ := h1.ex
    exact ⟨σ1, A1, σ2, A2, e1, e2, h2⟩
theorem sFor_inv {f : BI} {g : BG} {b : BS} {σ : EnvD} {A A1 : AH} {xs : List P} (I : Nat → EnvD → AH → Prop) (hf : f σ A = some (.val xs A1)) (h0 : I 0 σ A1)
    (h : ∀ i x σ A, xs[i]? = some x → I i σ A → Gt (g (.p x) σ A) fun σ1 A1 => Nx (b σ1 A1) (I (i + 1))) : ∃ σ' A', sFor f g b σ A = some (.nx σ' A') ∧ I xs.length σ' A' := by
  obtain ⟨σ', A', e, h⟩ := loop_inv I h0 h
  exact ⟨σ', A', sFor_nx hf e, h⟩
theorem sForE_inv {f : BI} {g : BG} {b : BS} {σ : EnvD} {A A1 : AH} {xs : List P} (I : Nat → EnvD → AH → Prop) (hf : f σ A = some (.val xs A1)) (h0 : I 0 σ A1)
    (h : ∀ i x σ A, xs[i]? = some x → I i σ A → Gt (g (.p x) σ A) fun σ1 A1 => Nx (b σ1 A1) (I (i + 1))) : ∃ σ' A', (∀ u, sForE f g b u σ A = u σ' A') ∧ I xs.length σ' A' := by
  obtain ⟨σ', A', e, h⟩ := loop_inv I h0 h
  exact ⟨σ', A', fun u => sForE_nx hf e, h⟩
/-- what a statement does -/
def Wp (r : Option SR) (N : EnvD → AH → Prop) (R : D → AH → Prop) : Prop := match r with
  | some (.nx σ A) => N σ A
  | some (.rt d A) => R d A
  | _ => False
structure Hid (p : Prop) : Prop where
  out : p
section
variable {f g : BS} {σ σ' : EnvD} {A A' : AH} {N : EnvD → AH → Prop} {R : D → AH → Prop}
theorem wp_nx : Wp (some (.nx σ A)) N R = N σ A := rfl
theorem wp_rt {d : D} : Wp (some (.rt d A)) N R = R d A := rfl
theorem wp_seq (h : ∀ k, Hid (∀ σ' A', Wp (g σ' A') N R → k σ' A') → Wp (f σ A) k R) : Wp (sSeq f g σ A) N R := by
  have h := h (fun σ' A' => Wp (g σ' A') N R) ⟨fun _ _ h => h⟩
  unfold sSeq
  match e : f σ A, h with
  | some (.nx σ' A'), h => exact h
  | some (.rt d A'), h => exact h
theorem wp_at {h : BS} (e : h σ A = some (.nx σ' A')) (w : Wp (g σ' A') N R) : Wp (sSeq h g σ A) N R := by unfold sSeq; rw [e]; exact w
theorem defF_wp {n m : Nat} {b : BS} {ds : List D} {A : AH} {r : Option (Res D)} (hn : ds.length = n) (h : Wp (b (startD m ds) A) (fun _ A' => some (.val (.p .non) (A'.take A.length)) = r) (fun d A' => fin A.length d A' = r)) : defF n m b ds A = r := by
  unfold defF mkF
  rw [if_pos hn]
  match e : b (startD m ds) A, h with
  | some (.nx σ' A'), h => exact h
  | some (.rt d A'), h => exact h
theorem defF_vl {n m : Nat} {b : BS} {ds : List D} {A : AH} {Q : D → AH → Prop} (hn : ds.length = n) (h : Wp (b (startD m ds) A) (fun _ A' => Q (.p .non) (A'.take A.length)) (fun d A' => Vl (fin A.length d A') Q)) : Vl (defF n m b ds A) Q := by
  unfold defF mkF
  rw [if_pos hn]
  match e : b (startD m ds) A, h with
  | some (.nx σ' A'), h => exact h
  | some (.rt d A'), h => exact h
end
/-! ### indexing, slices, equality -/
theorem atI_nat {α : Type} (xs : List α) (k : Nat) : atI xs (k : Int) = xs[k]? := by
  unfold atI ixN
  rw [if_pos (by omega)]
  split
  · simp only [Option.bind_some, Int.toNat_natCast]
  · rw [List.getElem?_eq_none (by omega)]; rfl
theorem atI_0 {α : Type} (xs : List α) : atI xs 0 = xs[0]? := atI_nat xs 0
theorem atI_1 {α : Type} (xs : List α) : atI xs 1 = xs[1]? := atI_nat xs 1
theorem atI_2 {α : Type} (xs : List α) : atI xs 2 = xs[2]? := atI_nat xs 2
theorem atI_3 {α : Type} (xs : List α) : atI xs 3 = xs[3]? := atI_nat xs 3
theorem atI_4 {α : Type} (xs : List α) : atI xs 4 = xs[4]? := atI_nat xs 4
theorem atI_5 {α : Type} (xs : List α) : atI xs 5 = xs[5]? := atI_nat xs 5
theorem atI_m1 {α : Type} (xs : List α) : atI xs (-1) = xs.getLast? := by
  unfold atI ixN
  rw [if_neg (by omega)]
  cases xs with
  | nil => rfl
  | cons x r =>
    rw [if_pos (by simp only [List.length_cons]; omega)]
    have : ((-1 : Int) + ((x :: r).length : Nat)).toNat = (x :: r).length - 1 := by simp only [List.length_cons]; omega
    simp only [Option.bind_some, this]
    rw [List.getLast?_eq_getElem?]
theorem cutP_to (xs : List P) (k : Nat) : cutP xs none (some (k : Int)) = xs.take k := by
  unfold cutP
  rw [HT.sIx_nat]
  show (xs.drop 0).take (min k xs.length - 0) = _
  rw [List.drop_zero, Nat.sub_zero]
  by_cases h : k ≤ xs.length
  · rw [Nat.min_eq_left h]
  · rw [Nat.min_eq_right (by omega), List.take_length, List.take_of_length_le (by omega)]
theorem cutP_from (xs : List P) (k : Nat) : cutP xs (some (k : Int)) none = xs.drop k := by
  unfold cutP
  rw [HT.sIx_nat]
  show (xs.drop (min k xs.length)).take (xs.length - min k xs.length) = _
  by_cases h : k ≤ xs.length
  · rw [Nat.min_eq_left h, List.take_of_length_le (by simp)]
  · rw [Nat.min_eq_right (by omega), List.drop_length, List.drop_of_length_le (by omega), List.take_nil]
theorem oSl_tup_to {xs : List P} {k : Nat} {A : AH} : oSl (.p (.tup xs)) none (some (k : Int)) A = some (.val (.p (.tup (xs.take k))) A) := by
  unfold oSl tupOf
  simp only []
  split
  · rename_i h
    have h2 := h.2
    rw [HT.sIx_nat] at h2
    rw [List.take_of_length_le (by omega)]
  · rw [cutP_to]
theorem oSl_tup_from {xs : List P} {k : Nat} {A : AH} : oSl (.p (.tup xs)) (some (k : Int)) none A = some (.val (.p (.tup (xs.drop k))) A) := by
  unfold oSl tupOf
  simp only []
  split
  · rename_i h
    have h2 := h.1
    rw [HT.sIx_nat] at h2
    by_cases hk : k = 0
    · subst hk; rfl
    · have : xs.length = 0 := by omega
      rw [List.eq_nil_of_length_eq_zero this]; simp
  · rw [cutP_from]
theorem oSl_lst_to {xs : List P} {k : Nat} {A : AH} : oSl (.p (.lst xs)) none (some (k : Int)) A = some (.val (.p (.lst (xs.take k))) A) := by
  unfold oSl tupOf lstOf
  simp only []
  rw [cutP_to]
theorem oSl_lst_from {xs : List P} {k : Nat} {A : AH} : oSl (.p (.lst xs)) (some (k : Int)) none A = some (.val (.p (.lst (xs.drop k))) A) := by
  unfold oSl tupOf lstOf
  simp only []
  rw [cutP_from]
theorem shaped_int (i : Int) : SeqAt.shaped (.int i) = true := rfl
theorem shaped_str {x : Str} (h : PyData.strOk x = true) : SeqAt.shaped (.str x) = true := by
  unfold SeqAt.shaped PyData.canLay0 PyData.depth; rw [h]; rfl
/-! ### the same, fully applied -/
theorem oSub_v {x y : D} {A : AH} : oSub x y A = oAlt oIx oDget x y A := rfl
theorem oIn_v {n : Bool} {x y : D} {A : AH} : oIn n x y A = oAlt (oInSeq n) (oAlt (oInS n) (oDin n)) x y A := rfl
theorem oPlus_v {x y : D} {A : AH} : oPlus x y A = oAlt oAdd (oAlt oCatL oCatT) x y A := rfl
theorem sRet_v {f : BE} {σ : EnvD} {A : AH} : sRet f σ A = sThen f (fun d _ A => some (.rt d A)) σ A := rfl
theorem sSet_v {f : BE} {i : Nat} {σ : EnvD} {A : AH} : sSet f i σ A = sAsg f (gNm i) σ A := rfl
theorem sExpr_v {f : BE} {σ : EnvD} {A : AH} : sExpr f σ A = sThen f (fun _ σ A => some (.nx σ A)) σ A := rfl
theorem sAsg_v {f : BE} {g : BG} {σ : EnvD} {A : AH} : sAsg f g σ A = sThen f (fun d σ A => match g d σ A with
  | none => none
  | some (σ', A') => some (.nx σ' A')) σ A := rfl
theorem sDput_v {fo fi fv : BE} {σ : EnvD} {A : AH} : sDput fo fi fv σ A = sThen fv (fun dv => sThen fo fun dd => sThen fi fun dk => endPut dv dd dk) σ A := rfl
theorem sFld_v {cs : List Addr} {f : Str} {fo fv : BE} {σ : EnvD} {A : AH} : sFld cs f fo fv σ A = sThen fv (fun dv => sThen fo fun d => endFld cs f dv d) σ A := rfl
end PF

/-! text G_k19 -/
set_option Elab.async false
set_option linter.all false
set_option maxRecDepth 100000
set_option maxHeartbeats 4000000
namespace PF.k19
open PySem L2 PySem.Spec PyProof.Rows

/-! printed by gen.py -/
def top (i : Nat) : Stmt := PySem.Challenge.pw_outsigns_k19_paths_rings_and_full_nets.main.body.getD i (.Pass ⟨0, 0, 0, 0⟩)
abbrev s__law_draw : Stmt := top 32
abbrev s__law_label : Stmt := top 35
abbrev s__law_labels : Stmt := top 36
abbrev s_is_list : Stmt := top 18
abbrev s_is_name : Stmt := top 19
abbrev s_want_names : Stmt := top 23
abbrev s_is_link : Stmt := top 20
abbrev s_in_sequence : Stmt := top 21
abbrev s_pairs_of : Stmt := top 24
abbrev s_neighbours_by_node : Stmt := top 25
abbrev s_Net___init__ : Stmt := inClass (top 26) 2
abbrev s_Net_full : Stmt := inClass (top 26) 6
abbrev s_Net_path : Stmt := inClass (top 26) 4
abbrev s_Net_ring : Stmt := inClass (top 26) 5
abbrev s__law_three : Stmt := top 37
abbrev s__law_link : Stmt := top 34
abbrev s_Net___len__ : Stmt := inClass (top 26) 23
abbrev s_Net_size : Stmt := inClass (top 26) 7
abbrev s_Net_links : Stmt := inClass (top 26) 9
abbrev s_Net_nodes : Stmt := inClass (top 26) 8
abbrev s_Net___eq__ : Stmt := inClass (top 26) 24
abbrev s__law_is : Stmt := top 38
abbrev s_want_net : Stmt := top 27
abbrev s_Net_has_link : Stmt := inClass (top 26) 11
abbrev s_Net_is_part_of : Stmt := inClass (top 26) 17
abbrev s_want_link : Stmt := top 29
abbrev s_Net___sub__ : Stmt := inClass (top 26) 19
abbrev s_Net_drawn_together : Stmt := inClass (top 26) 15
abbrev s__law_size_right : Stmt := top 39
abbrev s_Net_of : Stmt := inClass (top 26) 3
abbrev s__law_of_right : Stmt := top 40
abbrev s__law_right : Stmt := top 41
abbrev s__law_pot : Stmt := top 31
abbrev s_law : Stmt := top 42
structure Tx (K : PySem.W.Frag) (mg : Str → Option Value) where
  C_Net : Addr
  c_Net : Cls K C_Net
  it_Net : InsTy K C_Net
  f__law_draw : Addr
  fd__law_draw : FuncData
  F__law_draw : FunD K "_law_draw" "_law_draw" (defArgs s__law_draw) (defBody s__law_draw) (defScope s__law_draw) [] [] f__law_draw fd__law_draw
  b__law_draw : Binds K fd__law_draw ["_law_pot_here", "_law_size"] []
  g__law_draw : mg "_law_draw" = some (.ref f__law_draw)
  f__law_label : Addr
  fd__law_label : FuncData
  F__law_label : FunD K "_law_label" "_law_label" (defArgs s__law_label) (defBody s__law_label) (defScope s__law_label) [] [] f__law_label fd__law_label
  b__law_label : Binds K fd__law_label ["_law_pot_here"] []
  g__law_label : mg "_law_label" = some (.ref f__law_label)
  f__law_labels : Addr
  fd__law_labels : FuncData
  F__law_labels : FunD K "_law_labels" "_law_labels" (defArgs s__law_labels) (defBody s__law_labels) (defScope s__law_labels) [] [] f__law_labels fd__law_labels
  b__law_labels : Binds K fd__law_labels ["_law_pot_here"] []
  g__law_labels : mg "_law_labels" = some (.ref f__law_labels)
  f_is_list : Addr
  fd_is_list : FuncData
  F_is_list : FunD K "is_list" "is_list" (defArgs s_is_list) (defBody s_is_list) (defScope s_is_list) [] [] f_is_list fd_is_list
  b_is_list : Binds K fd_is_list ["value"] []
  g_is_list : mg "is_list" = some (.ref f_is_list)
  f_is_name : Addr
  fd_is_name : FuncData
  F_is_name : FunD K "is_name" "is_name" (defArgs s_is_name) (defBody s_is_name) (defScope s_is_name) [] [] f_is_name fd_is_name
  b_is_name : Binds K fd_is_name ["value"] []
  g_is_name : mg "is_name" = some (.ref f_is_name)
  f_want_names : Addr
  fd_want_names : FuncData
  F_want_names : FunD K "want_names" "want_names" (defArgs s_want_names) (defBody s_want_names) (defScope s_want_names) [] [] f_want_names fd_want_names
  b_want_names : Binds K fd_want_names ["nodes"] []
  g_want_names : mg "want_names" = some (.ref f_want_names)
  f_is_link : Addr
  fd_is_link : FuncData
  F_is_link : FunD K "is_link" "is_link" (defArgs s_is_link) (defBody s_is_link) (defScope s_is_link) [] [] f_is_link fd_is_link
  b_is_link : Binds K fd_is_link ["value"] []
  g_is_link : mg "is_link" = some (.ref f_is_link)
  f_in_sequence : Addr
  fd_in_sequence : FuncData
  F_in_sequence : FunD K "in_sequence" "in_sequence" (defArgs s_in_sequence) (defBody s_in_sequence) (defScope s_in_sequence) [] [] f_in_sequence fd_in_sequence
  b_in_sequence : Binds K fd_in_sequence ["link"] []
  g_in_sequence : mg "in_sequence" = some (.ref f_in_sequence)
  f_pairs_of : Addr
  fd_pairs_of : FuncData
  dv_pairs_of : List V
  F_pairs_of : FunD K "pairs_of" "pairs_of" (defArgs s_pairs_of) (defBody s_pairs_of) (defScope s_pairs_of) dv_pairs_of [] f_pairs_of fd_pairs_of
  b_pairs_of : Binds K fd_pairs_of ["links", "nodes"] []
  g_pairs_of : mg "pairs_of" = some (.ref f_pairs_of)
  d1_pairs_of : List Value
  vd1_pairs_of : List V
  bd1_pairs_of : Binds K fd_pairs_of ["links", "nodes"] d1_pairs_of
  pd1_pairs_of : Plain K [.non] vd1_pairs_of d1_pairs_of
  f_neighbours_by_node : Addr
  fd_neighbours_by_node : FuncData
  F_neighbours_by_node : FunD K "neighbours_by_node" "neighbours_by_node" (defArgs s_neighbours_by_node) (defBody s_neighbours_by_node) (defScope s_neighbours_by_node) [] [] f_neighbours_by_node fd_neighbours_by_node
  b_neighbours_by_node : Binds K fd_neighbours_by_node ["nodes", "pairs"] []
  g_neighbours_by_node : mg "neighbours_by_node" = some (.ref f_neighbours_by_node)
  f_Net___init__ : Addr
  fd_Net___init__ : FuncData
  dv_Net___init__ : List V
  F_Net___init__ : FunD K "__init__" "Net.__init__" (defArgs s_Net___init__) (defBody s_Net___init__) (defScope s_Net___init__) dv_Net___init__ [] f_Net___init__ fd_Net___init__
  b_Net___init__ : Binds K fd_Net___init__ ["self", "nodes", "links"] []
  f_Net_full : Addr
  fd_Net_full : FuncData
  F_Net_full : FunD K "full" "Net.full" (defArgs s_Net_full) (defBody s_Net_full) (defScope s_Net_full) [] [] f_Net_full fd_Net_full
  f_Net_path : Addr
  fd_Net_path : FuncData
  F_Net_path : FunD K "path" "Net.path" (defArgs s_Net_path) (defBody s_Net_path) (defScope s_Net_path) [] [] f_Net_path fd_Net_path
  f_Net_ring : Addr
  fd_Net_ring : FuncData
  F_Net_ring : FunD K "ring" "Net.ring" (defArgs s_Net_ring) (defBody s_Net_ring) (defScope s_Net_ring) [] [] f_Net_ring fd_Net_ring
  f__law_three : Addr
  fd__law_three : FuncData
  F__law_three : FunD K "_law_three" "_law_three" (defArgs s__law_three) (defBody s__law_three) (defScope s__law_three) [] [] f__law_three fd__law_three
  b__law_three : Binds K fd__law_three ["_law_some", "_law_size"] []
  g__law_three : mg "_law_three" = some (.ref f__law_three)
  f__law_link : Addr
  fd__law_link : FuncData
  F__law_link : FunD K "_law_link" "_law_link" (defArgs s__law_link) (defBody s__law_link) (defScope s__law_link) [] [] f__law_link fd__law_link
  b__law_link : Binds K fd__law_link ["_law_this", "_law_mate"] []
  g__law_link : mg "_law_link" = some (.ref f__law_link)
  f_Net___len__ : Addr
  fd_Net___len__ : FuncData
  F_Net___len__ : FunD K "__len__" "Net.__len__" (defArgs s_Net___len__) (defBody s_Net___len__) (defScope s_Net___len__) [] [] f_Net___len__ fd_Net___len__
  b_Net___len__ : Binds K fd_Net___len__ ["self"] []
  f_Net_size : Addr
  fd_Net_size : FuncData
  F_Net_size : FunD K "size" "Net.size" (defArgs s_Net_size) (defBody s_Net_size) (defScope s_Net_size) [] [] f_Net_size fd_Net_size
  b_Net_size : Binds K fd_Net_size ["self"] []
  f_Net_links : Addr
  fd_Net_links : FuncData
  F_Net_links : FunD K "links" "Net.links" (defArgs s_Net_links) (defBody s_Net_links) (defScope s_Net_links) [] [] f_Net_links fd_Net_links
  b_Net_links : Binds K fd_Net_links ["self"] []
  f_Net_nodes : Addr
  fd_Net_nodes : FuncData
  F_Net_nodes : FunD K "nodes" "Net.nodes" (defArgs s_Net_nodes) (defBody s_Net_nodes) (defScope s_Net_nodes) [] [] f_Net_nodes fd_Net_nodes
  b_Net_nodes : Binds K fd_Net_nodes ["self"] []
  f_Net___eq__ : Addr
  fd_Net___eq__ : FuncData
  F_Net___eq__ : FunD K "__eq__" "Net.__eq__" (defArgs s_Net___eq__) (defBody s_Net___eq__) (defScope s_Net___eq__) [] [] f_Net___eq__ fd_Net___eq__
  b_Net___eq__ : Binds K fd_Net___eq__ ["self", "other"] []
  f__law_is : Addr
  fd__law_is : FuncData
  F__law_is : FunD K "_law_is" "_law_is" (defArgs s__law_is) (defBody s__law_is) (defScope s__law_is) [] [] f__law_is fd__law_is
  b__law_is : Binds K fd__law_is ["_law_made", "_law_spots", "_law_pairs"] []
  g__law_is : mg "_law_is" = some (.ref f__law_is)
  f_want_net : Addr
  fd_want_net : FuncData
  F_want_net : FunD K "want_net" "want_net" (defArgs s_want_net) (defBody s_want_net) (defScope s_want_net) [] [] f_want_net fd_want_net
  b_want_net : Binds K fd_want_net ["value"] []
  g_want_net : mg "want_net" = some (.ref f_want_net)
  f_Net_has_link : Addr
  fd_Net_has_link : FuncData
  F_Net_has_link : FunD K "has_link" "Net.has_link" (defArgs s_Net_has_link) (defBody s_Net_has_link) (defScope s_Net_has_link) [] [] f_Net_has_link fd_Net_has_link
  b_Net_has_link : Binds K fd_Net_has_link ["self", "value"] []
  f_Net_is_part_of : Addr
  fd_Net_is_part_of : FuncData
  F_Net_is_part_of : FunD K "is_part_of" "Net.is_part_of" (defArgs s_Net_is_part_of) (defBody s_Net_is_part_of) (defScope s_Net_is_part_of) [] [] f_Net_is_part_of fd_Net_is_part_of
  b_Net_is_part_of : Binds K fd_Net_is_part_of ["self", "other"] []
  f_want_link : Addr
  fd_want_link : FuncData
  F_want_link : FunD K "want_link" "want_link" (defArgs s_want_link) (defBody s_want_link) (defScope s_want_link) [] [] f_want_link fd_want_link
  b_want_link : Binds K fd_want_link ["net", "value"] []
  g_want_link : mg "want_link" = some (.ref f_want_link)
  f_Net___sub__ : Addr
  fd_Net___sub__ : FuncData
  F_Net___sub__ : FunD K "__sub__" "Net.__sub__" (defArgs s_Net___sub__) (defBody s_Net___sub__) (defScope s_Net___sub__) [] [] f_Net___sub__ fd_Net___sub__
  b_Net___sub__ : Binds K fd_Net___sub__ ["self", "other"] []
  f_Net_drawn_together : Addr
  fd_Net_drawn_together : FuncData
  F_Net_drawn_together : FunD K "drawn_together" "Net.drawn_together" (defArgs s_Net_drawn_together) (defBody s_Net_drawn_together) (defScope s_Net_drawn_together) [] [] f_Net_drawn_together fd_Net_drawn_together
  b_Net_drawn_together : Binds K fd_Net_drawn_together ["self", "link"] []
  f__law_size_right : Addr
  fd__law_size_right : FuncData
  F__law_size_right : FunD K "_law_size_right" "_law_size_right" (defArgs s__law_size_right) (defBody s__law_size_right) (defScope s__law_size_right) [] [] f__law_size_right fd__law_size_right
  b__law_size_right : Binds K fd__law_size_right ["_law_pot_here", "_law_some", "_law_size"] []
  g__law_size_right : mg "_law_size_right" = some (.ref f__law_size_right)
  f_Net_of : Addr
  fd_Net_of : FuncData
  F_Net_of : FunD K "of" "Net.of" (defArgs s_Net_of) (defBody s_Net_of) (defScope s_Net_of) [] [] f_Net_of fd_Net_of
  f__law_of_right : Addr
  fd__law_of_right : FuncData
  F__law_of_right : FunD K "_law_of_right" "_law_of_right" (defArgs s__law_of_right) (defBody s__law_of_right) (defScope s__law_of_right) [] [] f__law_of_right fd__law_of_right
  b__law_of_right : Binds K fd__law_of_right ["_law_pot_here", "_law_some"] []
  g__law_of_right : mg "_law_of_right" = some (.ref f__law_of_right)
  f__law_right : Addr
  fd__law_right : FuncData
  F__law_right : FunD K "_law_right" "_law_right" (defArgs s__law_right) (defBody s__law_right) (defScope s__law_right) [] [] f__law_right fd__law_right
  b__law_right : Binds K fd__law_right ["_law_pot_here"] []
  g__law_right : mg "_law_right" = some (.ref f__law_right)
  f__law_pot : Addr
  fd__law_pot : FuncData
  F__law_pot : FunD K "_law_pot" "_law_pot" (defArgs s__law_pot) (defBody s__law_pot) (defScope s__law_pot) [] [] f__law_pot fd__law_pot
  b__law_pot : Binds K fd__law_pot ["_law_script", "_law_k"] []
  g__law_pot : mg "_law_pot" = some (.ref f__law_pot)
  f_law : Addr
  fd_law : FuncData
  F_law : FunD K "law" "law" (defArgs s_law) (defBody s_law) (defScope s_law) [] [] f_law fd_law
  b_law : Binds K fd_law ["_law_script"] []
  g_law : mg "law" = some (.ref f_law)
  mc_Net : Value
  rd_Net : ClX.CRead K C_Net mc_Net
  z_abs : mg "abs" = none
  z_all : mg "all" = none
  z_dict : mg "dict" = none
  z_divmod : mg "divmod" = none
  z_enumerate : mg "enumerate" = none
  z_int : mg "int" = none
  z_isinstance : mg "isinstance" = none
  z_len : mg "len" = none
  z_list : mg "list" = none
  z_max : mg "max" = none
  z_min : mg "min" = none
  z_range : mg "range" = none
  z_repr : mg "repr" = none
  z_set : mg "set" = none
  z_sorted : mg "sorted" = none
  z_str : mg "str" = none
  z_tuple : mg "tuple" = none
  z_zip : mg "zip" = none
  gC_Net : mg "Net" = some (.ref C_Net)
  pa_Net_full : Addr
  cm_Net_full : ClX.CMet K C_Net mc_Net "full" pa_Net_full f_Net_full
  pa_Net_path : Addr
  cm_Net_path : ClX.CMet K C_Net mc_Net "path" pa_Net_path f_Net_path
  pa_Net_ring : Addr
  cm_Net_ring : ClX.CMet K C_Net mc_Net "ring" pa_Net_ring f_Net_ring
  t_LETTERS : Tok
  c_LETTERS : mg "LETTERS" = some (.str "abcdefghijklmnopqrstuvwxyz" t_LETTERS)
  t_LONGEST_NAME : Tok
  c_LONGEST_NAME : mg "LONGEST_NAME" = some (.int 8 t_LONGEST_NAME)
  cv_Net_MOST_LINKS : CV K C_Net "MOST_LINKS" (.int 120)
  cv_Net_MOST_NODES : CV K C_Net "MOST_NODES" (.int 60)
  dn_Net___eq__ : Dn K C_Net "__eq__" f_Net___eq__
  dn_Net___len__ : Dn K C_Net "__len__" f_Net___len__
  dt_Net___sub__ : DnT K C_Net .Sub f_Net___sub__
  fd_Net_own_links : Fd K "own_links" C_Net
  fd_Net_own_near : Fd K "own_near" C_Net
  fd_Net_own_nodes : Fd K "own_nodes" C_Net
  m_Net_drawn_together : Meth K C_Net "drawn_together" f_Net_drawn_together
  m_Net_has_link : Meth K C_Net "has_link" f_Net_has_link
  m_Net_is_part_of : Meth K C_Net "is_part_of" f_Net_is_part_of
  m_Net_links : Meth K C_Net "links" f_Net_links
  m_Net_nodes : Meth K C_Net "nodes" f_Net_nodes
  mk_Net : Mk K C_Net f_Net___init__
  ne_Net : PySem.W.findIn K (.ref C_Net) "__ne__" = some (some (.builtin "object.__ne__"))
  mo_Net : PySem.W.mroIn K C_Net (.type "object") = some true
  pa_Net_size : Addr
  p_Net_size : PropOf K C_Net "size" pa_Net_size f_Net_size
  pa_Net_of : Addr
  sm_Net_of : SMet K C_Net mc_Net "of" pa_Net_of f_Net_of
  ans : Value → Value → Option Bool
  isi : IsiOk K ans
noncomputable section
variable {P : Program} {w : World} {K : PySem.W.Frag} {mg : Str → Option Value} {base : Heap}
def B__law_draw : BS := (sSeq (sIf (bTest (bOp (o2b (fun i j => decide (j < i))) (bOp oSub (bVar 0) (bC (.int 0))) (bC (.int 0))))
      (sSeq (sAsg (bCB oDivmod (bCons (bOp oSub (bVar 0) (bC (.int 0))) (bCons (bVar 1) bNil))) (gTp 2 (gCs (gIxL (bVar 0) (bC (.int 0))) (gCs (gNm 2) gNl))))
      (sRet (bVar 2)))
      sSkip)
      (sSeq (sAsg (bOp (o2i (fun _ j => 0 < j) fun i j => i % j) (bCB oInt1 (bCons (bOp oPlus (bOp (o2i CMulW fun i j => i * j) (bOp oSub (bVar 0) (bC (.int 1))) (bC (.int 48271))) (bC (.int 12161))) bNil)) (bC (.int 2147483587))) (gIxL (bVar 0) (bC (.int 1))))
      (sRet (bOp (o2i (fun _ j => 0 < j) fun i j => i % j) (bCB oInt1 (bCons (bOp (o2i CDivW fun i j => i / j) (bOp (o2i (fun _ j => 0 < j) fun i j => i % j) (bCB oInt1 (bCons (bOp (o2i CMulW fun i j => i * j) (bOp oSub (bVar 0) (bC (.int 1))) (bOp oSub (bVar 0) (bC (.int 1)))) bNil)) (bC (.int 2147483549))) (bC (.int 13))) bNil)) (bVar 1)))))
theorem sc__law_draw : FnScope ["_law_pot_here", "_law_size", "_law_digit"] ["_law_pot_here", "_law_size"] (defScope s__law_draw) := ⟨rfl, rfl, rfl, by decide +kernel, rfl, by decide +kernel, by decide +kernel⟩
def F__law_draw : BF := defF 2 3 B__law_draw
theorem ok__law_draw (T : Tx K mg) : FnOk P w K mg base (L2.CX P w) 1 T.f__law_draw T.fd__law_draw ["_law_pot_here", "_law_size"] (spF K 2 F__law_draw) :=
  fnD_ok T.F__law_draw sc__law_draw rfl rfl fun cdv A outer s H E hr C =>
    (ss_cons (s_if (t_pc (c_op r2_b op_gt (e_sub (un1 hr) (e_V 0) e_int (fun _ _ => rfl) (fun _ _ => rfl)) e_int) rfl)
      (ss_cons (s_asg (e_callB (x := "divmod") call_divmodW l_divmod rfl T.z_divmod boot_divmod (a_cons (e_sub (un1 hr) (e_V 0) e_int (fun _ _ => rfl) (fun _ _ => rfl)) (a_cons (e_V 1) a_nil))) (g_tup C.calm (gs_cons (g_ixL (W := fun c d _ H => E c d H) (e_V 0) e_int) (gs_cons (g_N 2 C.nd) gs_nil))))
      (ss_one (s_ret (e_V 2))))
      ss_nil)
      (ss_cons (s_asg (e_op r2_i op_mod (e_callTy (x := "int") call_int1X l_int1 rfl T.z_int boot_int (a_cons (e_plus (e_op r2_i op_mulW (e_sub (un1 hr) (e_V 0) e_int (fun _ _ => rfl) (fun _ _ => rfl)) e_int) e_int) a_nil)) e_int) (g_ixL (W := fun c d _ H => E c d H) (e_V 0) e_int))
      (ss_one (s_ret (e_op r2_i op_mod (e_callTy (x := "int") call_int1X l_int1 rfl T.z_int boot_int (a_cons (e_op r2_i op_fdivW (e_op r2_i op_mod (e_callTy (x := "int") call_int1X l_int1 rfl T.z_int boot_int (a_cons (e_op r2_i op_mulW (e_sub (un1 hr) (e_V 0) e_int (fun _ _ => rfl) (fun _ _ => rfl)) (e_sub (un1 hr) (e_V 0) e_int (fun _ _ => rfl) (fun _ _ => rfl))) a_nil)) e_int) e_int) a_nil)) (e_V 1))))))
def FR__law_draw : BF := fun ds => F__law_draw (ds ++ ([] : List PF.P).map .p)
def B__law_label : BS := (sSeq (sSet (bC (.str "")) 1)
      (sSeq (sFor (bRange1 (bCons (bOp oPlus (bC (.int 1)) (bCall F__law_draw [] (bCons (bVar 0) (bCons (bOp oSub (bLst (bCons (bC (.int 2)) (bCons (bC (.int 8)) bNil))) (bCall F__law_draw [] (bCons (bVar 0) (bCons (bC (.int 2)) bNil)))) bNil)))) bNil)) (gNm 2)
      (sSet (bOp oPlus (bVar 1) (bOp oSub (bC (.str "abcdefghijklmnopqrstuvwxyz")) (bCall F__law_draw [] (bCons (bVar 0) (bCons (bC (.int 26)) bNil))))) 1))
      (sRet (bVar 1))))
theorem sc__law_label : FnScope ["_law_pot_here", "_law_label_here", "_law_turn"] ["_law_pot_here"] (defScope s__law_label) := ⟨rfl, rfl, rfl, by decide +kernel, rfl, by decide +kernel, by decide +kernel⟩
def F__law_label : BF := defF 1 3 B__law_label
theorem ok__law_label (T : Tx K mg) : FnOk P w K mg base (L2.CX P w) 2 T.f__law_label T.fd__law_label ["_law_pot_here"] (spF K 1 F__law_label) :=
  fnD_ok T.F__law_label sc__law_label rfl rfl fun cdv A outer s H E hr C =>
    (ss_cons (s_S 1 C.nd e_str)
      (ss_cons (s_for C (i_range1 rfl T.z_range (a_cons (e_plus e_int (e_call (x := "_law_draw") (ok__law_draw T) defF_len C.tk (hr.mono (by decide)) rfl T.g__law_draw T.F__law_draw.kp T.b__law_draw Plain.nil (a_cons (e_V 0) (a_cons (e_sub (un1 hr) (e_lst (a_cons e_int (a_cons e_int a_nil))) (e_call (x := "_law_draw") (ok__law_draw T) defF_len C.tk (hr.mono (by decide)) rfl T.g__law_draw T.F__law_draw.kp T.b__law_draw Plain.nil (a_cons (e_V 0) (a_cons e_int a_nil))) (fun _ _ => rfl) (fun _ _ => rfl)) a_nil)))) a_nil)) (g_N 2 C.nd)
      (ss_one (s_S 1 C.nd (e_plus (e_V 1) (e_sub (un1 hr) e_str (e_call (x := "_law_draw") (ok__law_draw T) defF_len C.tk (hr.mono (by decide)) rfl T.g__law_draw T.F__law_draw.kp T.b__law_draw Plain.nil (a_cons (e_V 0) (a_cons e_int a_nil))) (fun _ _ => rfl) (fun _ _ => rfl))))))
      (ss_one (s_ret (e_V 1)))))
def FR__law_label : BF := fun ds => F__law_label (ds ++ ([] : List PF.P).map .p)
def B__law_labels : BS := (sSeq (sSet (bLstM bNil) 1)
      (sSeq (sFor (bRange1 (bCons (bC (.int 7)) bNil)) (gNm 2)
      (sSeq (sSet (bCall F__law_label [] (bCons (bVar 0) bNil)) 3)
      (sSeq (sIf (bTest (bOp (oIn false) (bVar 3) (bVar 1)))
      (sSet (bOp oSub (bLc (bAlt (bSeq (bLst (bCons (bC (.str "qqa")) (bCons (bC (.str "qqb")) (bCons (bC (.str "qqc")) (bCons (bC (.str "qqd")) (bCons (bC (.str "qqe")) (bCons (bC (.str "qqf")) (bCons (bC (.str "qqg")) bNil))))))))) (bSigns (bLst (bCons (bC (.str "qqa")) (bCons (bC (.str "qqb")) (bCons (bC (.str "qqc")) (bCons (bC (.str "qqd")) (bCons (bC (.str "qqe")) (bCons (bC (.str "qqf")) (bCons (bC (.str "qqg")) bNil)))))))))) (gNm 4) (bTest (bOp (oIn true) (bVar 4) (bVar 1))) (bVar 4) [4]) (bC (.int 0))) 3)
      sSkip)
      (sExpr (bBM gAppend (bVar 1) (bCons (bVar 3) bNil))))))
      (sRet (bFrz (bVar 1)))))
theorem sc__law_labels : FnScope ["_law_pot_here", "_law_found", "_law_k", "_law_label_here", "_law_near"] ["_law_pot_here"] (defScope s__law_labels) := ⟨rfl, rfl, rfl, by decide +kernel, rfl, by decide +kernel, by decide +kernel⟩
def F__law_labels : BF := defF 1 5 B__law_labels
theorem ok__law_labels (T : Tx K mg) : FnOk P w K mg base (L2.CX P w) 3 T.f__law_labels T.fd__law_labels ["_law_pot_here"] (spF K 1 F__law_labels) :=
  fnD_ok T.F__law_labels sc__law_labels rfl rfl fun cdv A outer s H E hr C =>
    (ss_cons (s_S 1 C.nd (e_lstM a_nil))
      (ss_cons (s_for C (i_range1 rfl T.z_range (a_cons e_int a_nil)) (g_N 2 C.nd)
      (ss_cons (s_S 3 C.nd (e_call (x := "_law_label") (ok__law_label T) defF_len C.tk (hr.mono (by decide)) rfl T.g__law_label T.F__law_label.kp T.b__law_label Plain.nil (a_cons (e_V 0) a_nil)))
      (ss_cons (s_if (t_pc (c_op r2_in (op_inA (un65 hr)) (e_V 3) (e_V 1)) rfl)
      (ss_one (s_S 3 C.nd (e_sub (un1 hr) (e_lc C.calm C.nd (i_alt (i_seq (e_lst (a_cons e_str (a_cons e_str (a_cons e_str (a_cons e_str (a_cons e_str (a_cons e_str (a_cons e_str a_nil))))))))) (i_signs (e_lst (a_cons e_str (a_cons e_str (a_cons e_str (a_cons e_str (a_cons e_str (a_cons e_str (a_cons e_str a_nil)))))))))) (blkOk_by2 (N := ["_law_pot_here", "_law_found", "_law_k", "_law_label_here", "_law_near"]) (sc := defScope s__law_labels) (own := [("_law_near", 4)]) rfl rfl (by decide +kernel)) (by decide) (fun _ _ _ _ _ => (g_N 4 C.nd)) (fun _ _ _ _ _ => (c_one (t_pc (c_op r2_notin (op_notInA (un65 hr)) (e_V 4) (e_V 1)) rfl))) (fun _ _ _ _ _ => (e_V 4))) e_int (fun _ _ => rfl) (fun _ _ => rfl))))
      ss_nil)
      (ss_one (s_expr (e_append (e_V 1) (a_cons (e_V 3) a_nil)))))))
      (ss_one (s_ret (e_frz (e_V 1))))))
def FR__law_labels : BF := fun ds => F__law_labels (ds ++ ([] : List PF.P).map .p)
def B_is_list (ans : Value → Value → Option Bool) : BS := (sRet (bCB (oIsi ans) (bCons (bVar 0) (bCons (bTup (bCons (bC (.ty "list")) (bCons (bC (.ty "tuple")) bNil))) bNil))))
theorem sc_is_list : FnScope ["value"] ["value"] (defScope s_is_list) := ⟨rfl, rfl, rfl, by decide +kernel, rfl, by decide +kernel, by decide +kernel⟩
def F_is_list (ans : Value → Value → Option Bool) : BF := defF 1 1 (B_is_list ans)
theorem ok_is_list (T : Tx K mg) : FnOk P w K mg base (L2.CX P w) 1 T.f_is_list T.fd_is_list ["value"] (spF K 1 (F_is_list T.ans)) :=
  fnD_ok T.F_is_list sc_is_list rfl rfl fun cdv A outer s H E hr C =>
    (ss_one (s_ret (e_callB call_isiA (l_isi T.isi) rfl T.z_isinstance boot_isinstance (a_cons (e_V 0) (a_cons (e_tup (a_cons (e_ty rfl T.z_list boot_list) (a_cons (e_ty rfl T.z_tuple boot_tuple) a_nil))) a_nil)))))
def FR_is_list (ans : Value → Value → Option Bool) : BF := fun ds => F_is_list ans (ds ++ ([] : List PF.P).map .p)
def B_is_name (ans : Value → Value → Option Bool) : BS := (sSeq (sIf (bOr (bNot (bTest (bCB (oIsi ans) (bCons (bVar 0) (bCons (bC (.ty "str")) bNil))))) (bNot (bTest (bChain (o2b (fun i j => decide (i ≤ j))) (o2b (fun i j => decide (i ≤ j))) (bC (.int 1)) (bCB oLen (bCons (bVar 0) bNil)) (bC (.int 8))))))
      (sRet (bC (.bl false)))
      sSkip)
      (sSeq (sForE (bAlt (bSeq (bVar 0)) (bSigns (bVar 0))) (gNm 1)
      (sIf (bTest (bOp (oIn true) (bVar 1) (bC (.str "abcdefghijklmnopqrstuvwxyz"))))
      sBreak
      sSkip)
      (sRet (bC (.bl true))))
      (sRet (bC (.bl false)))))
theorem sc_is_name : FnScope ["value", "sign"] ["value"] (defScope s_is_name) := ⟨rfl, rfl, rfl, by decide +kernel, rfl, by decide +kernel, by decide +kernel⟩
def F_is_name (ans : Value → Value → Option Bool) : BF := defF 1 2 (B_is_name ans)
theorem ok_is_name (T : Tx K mg) : FnOk P w K mg base (L2.CX P w) 1 T.f_is_name T.fd_is_name ["value"] (spF K 1 (F_is_name T.ans)) :=
  fnD_ok T.F_is_name sc_is_name rfl rfl fun cdv A outer s H E hr C =>
    (ss_cons (s_if (t_w (t_or (t_not (t_val (e_callB call_isiA (l_isi T.isi) rfl T.z_isinstance boot_isinstance (a_cons (e_V 0) (a_cons (e_ty rfl T.z_str boot_str) a_nil))))) (t_or1 (t_not (t_chain op_le op_le e_int (e_callB (x := "len") call_lenA l_len rfl T.z_len boot_len (a_cons (e_V 0) a_nil)) (e_Gi rfl T.c_LONGEST_NAME))))))
      (ss_one (s_ret e_bl))
      ss_nil)
      (ss_cons (s_forE C (i_alt (i_seq (e_V 0)) (i_signs (e_V 0))) (g_N 1 C.nd)
      (ss_one (s_if (t_pc (c_op r2_notin (op_notInA (un65 hr)) (e_V 1) (e_Gs rfl T.c_LETTERS)) rfl)
      (ss_one s_break)
      ss_nil))
      (ss_one (s_ret e_bl)))
      (ss_one (s_ret e_bl))))
def FR_is_name (ans : Value → Value → Option Bool) : BF := fun ds => F_is_name ans (ds ++ ([] : List PF.P).map .p)
def B_want_names (ans : Value → Value → Option Bool) : BS := (sSeq (sIf (bOr (bNot (bTest (bCall (F_is_list ans) [] (bCons (bVar 0) bNil)))) (bTest (bOp (o2eq false) (bCB oLen (bCons (bVar 0) bNil)) (bC (.int 0)))))
      sNever
      sSkip)
      (sFor (bEnum (bCons (bVar 0) bNil)) (gTp 2 (gCs (gNm 1) (gCs (gNm 2) gNl)))
      (sIf (bOr (bNot (bTest (bCall (F_is_name ans) [] (bCons (bVar 2) bNil)))) (bTest (bOp (oIn false) (bVar 2) (bSl (bVar 0) bNoPart (bPart (bVar 1))))))
      sNever
      sSkip)))
theorem sc_want_names : FnScope ["nodes", "position", "node"] ["nodes"] (defScope s_want_names) := ⟨rfl, rfl, rfl, by decide +kernel, rfl, by decide +kernel, by decide +kernel⟩
def F_want_names (ans : Value → Value → Option Bool) : BF := defF 1 3 (B_want_names ans)
theorem ok_want_names (T : Tx K mg) : FnOk P w K mg base (L2.CX P w) 2 T.f_want_names T.fd_want_names ["nodes"] (spF K 1 (F_want_names T.ans)) :=
  fnD_ok T.F_want_names sc_want_names rfl rfl fun cdv A outer s H E hr C =>
    (ss_cons (s_if (t_w (t_or (t_not (t_val (e_call (x := "is_list") (ok_is_list T) defF_len C.tk (hr.mono (by decide)) rfl T.g_is_list T.F_is_list.kp T.b_is_list Plain.nil (a_cons (e_V 0) a_nil)))) (t_or1 (t_pc (c_op r2_eq (op_eqD (un64 hr)) (e_callB (x := "len") call_lenA l_len rfl T.z_len boot_len (a_cons (e_V 0) a_nil)) e_int) rfl))))
      (ss_one s_never)
      ss_nil)
      (ss_one (s_for C (i_enum rfl T.z_enumerate (a_cons (e_V 0) a_nil)) (g_tup C.calm (gs_cons (g_N 1 C.nd) (gs_cons (g_N 2 C.nd) gs_nil)))
      (ss_one (s_if (t_w (t_or (t_not (t_val (e_call (x := "is_name") (ok_is_name T) defF_len C.tk (hr.mono (by decide)) rfl T.g_is_name T.F_is_name.kp T.b_is_name Plain.nil (a_cons (e_V 2) a_nil)))) (t_or1 (t_pc (c_op r2_in (op_inA (un65 hr)) (e_V 2) (e_sl (e_V 0) o_none (o_some (e_V 1)))) rfl))))
      (ss_one s_never)
      ss_nil)))))
def FR_want_names (ans : Value → Value → Option Bool) : BF := fun ds => F_want_names ans (ds ++ ([] : List PF.P).map .p)
def B_is_link (ans : Value → Value → Option Bool) : BS := (sSeq (sIf (bOr (bNot (bTest (bCB (oIsi ans) (bCons (bVar 0) (bCons (bC (.ty "tuple")) bNil))))) (bTest (bOp (o2eq true) (bCB oLen (bCons (bVar 0) bNil)) (bC (.int 2)))))
      (sRet (bC (.bl false)))
      sSkip)
      (sRet (bAndV (bCall (F_is_name ans) [] (bCons (bOp oSub (bVar 0) (bC (.int 0))) bNil)) (bAndV (bCall (F_is_name ans) [] (bCons (bOp oSub (bVar 0) (bC (.int 1))) bNil)) (bOp (o2eq true) (bOp oSub (bVar 0) (bC (.int 0))) (bOp oSub (bVar 0) (bC (.int 1))))))))
theorem sc_is_link : FnScope ["value"] ["value"] (defScope s_is_link) := ⟨rfl, rfl, rfl, by decide +kernel, rfl, by decide +kernel, by decide +kernel⟩
def F_is_link (ans : Value → Value → Option Bool) : BF := defF 1 1 (B_is_link ans)
theorem ok_is_link (T : Tx K mg) : FnOk P w K mg base (L2.CX P w) 2 T.f_is_link T.fd_is_link ["value"] (spF K 1 (F_is_link T.ans)) :=
  fnD_ok T.F_is_link sc_is_link rfl rfl fun cdv A outer s H E hr C =>
    (ss_cons (s_if (t_w (t_or (t_not (t_val (e_callB call_isiA (l_isi T.isi) rfl T.z_isinstance boot_isinstance (a_cons (e_V 0) (a_cons (e_ty rfl T.z_tuple boot_tuple) a_nil))))) (t_or1 (t_pc (c_op r2_ne (op_neD (un64 hr)) (e_callB (x := "len") call_lenA l_len rfl T.z_len boot_len (a_cons (e_V 0) a_nil)) e_int) rfl))))
      (ss_one (s_ret e_bl))
      ss_nil)
      (ss_one (s_ret (e_and (e_call (x := "is_name") (ok_is_name T) defF_len C.tk (hr.mono (by decide)) rfl T.g_is_name T.F_is_name.kp T.b_is_name Plain.nil (a_cons (e_sub (un1 hr) (e_V 0) e_int (fun _ _ => rfl) (fun _ _ => rfl)) a_nil)) (e_and (e_call (x := "is_name") (ok_is_name T) defF_len C.tk (hr.mono (by decide)) rfl T.g_is_name T.F_is_name.kp T.b_is_name Plain.nil (a_cons (e_sub (un1 hr) (e_V 0) e_int (fun _ _ => rfl) (fun _ _ => rfl)) a_nil)) (e_one (e_pc (c_op r2_ne (op_neD (un64 hr)) (e_sub (un1 hr) (e_V 0) e_int (fun _ _ => rfl) (fun _ _ => rfl)) (e_sub (un1 hr) (e_V 0) e_int (fun _ _ => rfl) (fun _ _ => rfl))) rfl)))))))
def FR_is_link (ans : Value → Value → Option Bool) : BF := fun ds => F_is_link ans (ds ++ ([] : List PF.P).map .p)
def B_in_sequence : BS := (sSeq (sAsg (bVar 0) (gTp 2 (gCs (gNm 1) (gCs (gNm 2) gNl))))
      (sRet (bIf (bTest (bOp (oAlt (o2b (fun i j => decide (i ≤ j))) (o2sb (fun i j => !decide (j.cps.toList < i.cps.toList)))) (bVar 1) (bVar 2))) (bTup (bCons (bVar 1) (bCons (bVar 2) bNil))) (bTup (bCons (bVar 2) (bCons (bVar 1) bNil))))))
theorem sc_in_sequence : FnScope ["link", "one", "other"] ["link"] (defScope s_in_sequence) := ⟨rfl, rfl, rfl, by decide +kernel, rfl, by decide +kernel, by decide +kernel⟩
def F_in_sequence : BF := defF 1 3 B_in_sequence
theorem ok_in_sequence (T : Tx K mg) : FnOk P w K mg base (L2.CX P w) 1 T.f_in_sequence T.fd_in_sequence ["link"] (spF K 1 F_in_sequence) :=
  fnD_ok T.F_in_sequence sc_in_sequence rfl rfl fun cdv A outer s H E hr C =>
    (ss_cons (s_asg (e_V 0) (g_tup C.calm (gs_cons (g_N 1 C.nd) (gs_cons (g_N 2 C.nd) gs_nil))))
      (ss_one (s_ret (e_if (t_pc (c_alt (c_op r2_b op_le (e_V 1) (e_V 2)) (c_op r2_sb op_le_str (e_V 1) (e_V 2))) rfl) (e_tup (a_cons (e_V 1) (a_cons (e_V 2) a_nil))) (e_tup (a_cons (e_V 2) (a_cons (e_V 1) a_nil)))))))
def FR_in_sequence : BF := fun ds => F_in_sequence (ds ++ ([] : List PF.P).map .p)
def B_pairs_of (ans : Value → Value → Option Bool) : BS := (sSeq (sIf (bNot (bTest (bCall (F_is_list ans) [] (bCons (bVar 0) bNil))))
      sNever
      sSkip)
      (sSeq (sSet (bDnew true) 2)
      (sSeq (sFor (bEnum (bCons (bVar 0) bNil)) (gTp 2 (gCs (gNm 3) (gCs (gNm 4) gNl)))
      (sSeq (sIf (bOr (bNot (bTest (bCall (F_is_link ans) [] (bCons (bVar 4) bNil)))) (bAnd (bTest (bOp oIsNot (bVar 1) (bC .non))) (bNot (bAnd (bTest (bOp (oIn false) (bOp oSub (bVar 4) (bC (.int 0))) (bVar 1))) (bTest (bOp (oIn false) (bOp oSub (bVar 4) (bC (.int 1))) (bVar 1)))))))
      sNever
      sSkip)
      (sSeq (sSet (bCall F_in_sequence [] (bCons (bVar 4) bNil)) 5)
      (sSeq (sIf (bTest (bOp (oIn false) (bVar 5) (bVar 2)))
      sNever
      sSkip)
      (sDput (bVar 2) (bVar 5) (bC (.bl true)))))))
      (sRet (bCB oSorted (bCons (bVar 2) bNil))))))
theorem sc_pairs_of : FnScope ["links", "nodes", "found", "position", "link", "pair"] ["links", "nodes"] (defScope s_pairs_of) := ⟨rfl, rfl, rfl, by decide +kernel, rfl, by decide +kernel, by decide +kernel⟩
def F_pairs_of (ans : Value → Value → Option Bool) : BF := defF 2 6 (B_pairs_of ans)
theorem ok_pairs_of (T : Tx K mg) : FnOk P w K mg base (L2.CX P w) 3 T.f_pairs_of T.fd_pairs_of ["links", "nodes"] (spF K 2 (F_pairs_of T.ans)) :=
  fnD_ok T.F_pairs_of sc_pairs_of rfl rfl fun cdv A outer s H E hr C =>
    (ss_cons (s_if (t_not (t_val (e_call (x := "is_list") (ok_is_list T) defF_len C.tk (hr.mono (by decide)) rfl T.g_is_list T.F_is_list.kp T.b_is_list Plain.nil (a_cons (e_V 0) a_nil))))
      (ss_one s_never)
      ss_nil)
      (ss_cons (s_S 2 C.nd (e_dnew (t := true)))
      (ss_cons (s_for C (i_enum rfl T.z_enumerate (a_cons (e_V 0) a_nil)) (g_tup C.calm (gs_cons (g_N 3 C.nd) (gs_cons (g_N 4 C.nd) gs_nil)))
      (ss_cons (s_if (t_w (t_or (t_not (t_val (e_call (x := "is_link") (ok_is_link T) defF_len C.tk (hr.mono (by decide)) rfl T.g_is_link T.F_is_link.kp T.b_is_link Plain.nil (a_cons (e_V 4) a_nil)))) (t_or1 (t_w (t_and (t_pc (c_op r2_isnot op_isNotNX (e_V 1) e_non) rfl) (t_and1 (t_not (t_w (t_and (t_pc (c_op r2_in (op_inA (un65 hr)) (e_sub (un1 hr) (e_V 4) e_int (fun _ _ => rfl) (fun _ _ => rfl)) (e_V 1)) rfl) (t_and1 (t_pc (c_op r2_in (op_inA (un65 hr)) (e_sub (un1 hr) (e_V 4) e_int (fun _ _ => rfl) (fun _ _ => rfl)) (e_V 1)) rfl)))))))))))
      (ss_one s_never)
      ss_nil)
      (ss_cons (s_S 5 C.nd (e_call (x := "in_sequence") (ok_in_sequence T) defF_len C.tk (hr.mono (by decide)) rfl T.g_in_sequence T.F_in_sequence.kp T.b_in_sequence Plain.nil (a_cons (e_V 4) a_nil)))
      (ss_cons (s_if (t_pc (c_op r2_in (op_inA (un65 hr)) (e_V 5) (e_V 2)) rfl)
      (ss_one s_never)
      ss_nil)
      (ss_one (s_dput (un1 hr) (e_V 2) (e_V 5) e_bl))))))
      (ss_one (s_ret (e_callB (call_sortedX C.calm (un65 hr)) (l_sorted C.calm) rfl T.z_sorted boot_sorted (a_cons (e_V 2) a_nil)))))))
def FR_pairs_of (ans : Value → Value → Option Bool) : BF := fun ds => F_pairs_of ans (ds ++ ([] : List PF.P).map .p)
def B_neighbours_by_node : BS := (sSeq (sSet (bCB oDictP (bCons (bLc (bAlt (bSeq (bVar 0)) (bSigns (bVar 0))) (gNm 5) bYes (bTup (bCons (bVar 5) (bCons (bTup bNil) bNil))) [5]) bNil)) 2)
      (sSeq (sFor (bSeq (bVar 1)) (gTp 2 (gCs (gNm 3) (gCs (gNm 4) gNl)))
      (sSeq (sDput (bVar 2) (bVar 3) (bTup (bStar (bOp oSub (bVar 2) (bVar 3)) (bCons (bVar 4) bNil))))
      (sDput (bVar 2) (bVar 4) (bTup (bStar (bOp oSub (bVar 2) (bVar 4)) (bCons (bVar 3) bNil))))))
      (sRet (bDc false (bAlt (bSeq (bVar 0)) (bSigns (bVar 0))) (gNm 5) bYes (bVar 5) (bCB oTuple (bCons (bCB oSorted (bCons (bOp oSub (bVar 2) (bVar 5)) bNil)) bNil)) [5]))))
theorem sc_neighbours_by_node : FnScope ["nodes", "pairs", "near", "one", "other", "node"] ["nodes", "pairs"] (defScope s_neighbours_by_node) := ⟨rfl, rfl, rfl, by decide +kernel, rfl, by decide +kernel, by decide +kernel⟩
def F_neighbours_by_node : BF := defF 2 6 B_neighbours_by_node
theorem ok_neighbours_by_node (T : Tx K mg) : FnOk P w K mg base (L2.CX P w) 1 T.f_neighbours_by_node T.fd_neighbours_by_node ["nodes", "pairs"] (spF K 2 F_neighbours_by_node) :=
  fnD_ok T.F_neighbours_by_node sc_neighbours_by_node rfl rfl fun cdv A outer s H E hr C =>
    (ss_cons (s_S 2 C.nd (e_callTy (x := "dict") (call_dictP C.calm) l_dictP rfl T.z_dict boot_dict (a_cons (e_lc C.calm C.nd (i_alt (i_seq (e_V 0)) (i_signs (e_V 0))) (blkOk_by2 (N := ["nodes", "pairs", "near", "one", "other", "node"]) (sc := defScope s_neighbours_by_node) (own := [("node", 5)]) rfl rfl (by decide +kernel)) (by decide) (fun _ _ _ _ _ => (g_N 5 C.nd)) (fun _ _ _ _ _ => c_yes) (fun _ _ _ _ _ => (e_tup (a_cons (e_V 5) (a_cons (e_tup a_nil) a_nil))))) a_nil)))
      (ss_cons (s_for C (i_seq (e_V 1)) (g_tup C.calm (gs_cons (g_N 3 C.nd) (gs_cons (g_N 4 C.nd) gs_nil)))
      (ss_cons (s_dput (un1 hr) (e_V 2) (e_V 3) (e_tupS (a_star (e_sub (un1 hr) (e_V 2) (e_V 3) (fun _ _ => rfl) (fun _ _ => rfl)) (a_cons (e_V 4) a_nil))))
      (ss_one (s_dput (un1 hr) (e_V 2) (e_V 4) (e_tupS (a_star (e_sub (un1 hr) (e_V 2) (e_V 4) (fun _ _ => rfl) (fun _ _ => rfl)) (a_cons (e_V 3) a_nil)))))))
      (ss_one (s_ret (e_dc (t := false) (un1 hr) C.calm C.nd (i_alt (i_seq (e_V 0)) (i_signs (e_V 0))) (blkOk_by2 (N := ["nodes", "pairs", "near", "one", "other", "node"]) (sc := defScope s_neighbours_by_node) (own := [("node", 5)]) rfl rfl (by decide +kernel)) (by decide) (fun _ _ _ _ _ => (g_N 5 C.nd)) (fun _ _ _ _ _ => c_yes) (fun _ _ _ _ _ => (e_V 5)) (fun _ _ _ _ _ => (e_callTy (x := "tuple") call_tuple_of l_tuple rfl T.z_tuple boot_tuple (a_cons (e_callB (call_sortedX C.calm (un65 hr)) (l_sorted C.calm) rfl T.z_sorted boot_sorted (a_cons (e_sub (un1 hr) (e_V 2) (e_V 5) (fun _ _ => rfl) (fun _ _ => rfl)) a_nil)) a_nil))))))))
def FR_neighbours_by_node : BF := fun ds => F_neighbours_by_node (ds ++ ([] : List PF.P).map .p)
def B_Net___init__ (C_Net : Addr) (ans : Value → Value → Option Bool) : BS := (sSeq (sExpr (bCall (F_want_names ans) [] (bCons (bVar 1) bNil)))
      (sSeq (sSet (bCall (F_pairs_of ans) [] (bCons (bVar 2) (bCons (bDc false (bAlt (bSeq (bVar 1)) (bSigns (bVar 1))) (gNm 4) bYes (bVar 4) (bC (.bl true)) [4]) bNil))) 3)
      (sSeq (sIf (bTest (bOp (o2b (fun i j => decide (j < i))) (bCB oLen (bCons (bVar 1) bNil)) (bCV C_Net (.int 60) (bC (.rf C_Net)))))
      sNever
      sSkip)
      (sSeq (sIf (bTest (bOp (o2b (fun i j => decide (j < i))) (bCB oLen (bCons (bVar 3) bNil)) (bCV C_Net (.int 120) (bC (.rf C_Net)))))
      sNever
      sSkip)
      (sSeq (sFld [C_Net] "own_nodes" (bVar 0) (bFrz (bCB oTuple (bCons (bCB oSorted (bCons (bVar 1) bNil)) bNil))))
      (sSeq (sFld [C_Net] "own_links" (bVar 0) (bFrz (bCB oTuple (bCons (bVar 3) bNil))))
      (sFld [C_Net] "own_near" (bVar 0) (bFrz (bCall F_neighbours_by_node [] (bCons (bFld [C_Net] "own_nodes" (bVar 0)) (bCons (bFld [C_Net] "own_links" (bVar 0)) bNil)))))))))))
theorem sc_Net___init__ : FnScope ["self", "nodes", "links", "pairs", "node"] ["self", "nodes", "links"] (defScope s_Net___init__) := ⟨rfl, rfl, rfl, by decide +kernel, rfl, by decide +kernel, by decide +kernel⟩
def F_Net___init__ (C_Net : Addr) (ans : Value → Value → Option Bool) : BF := defF 3 5 (B_Net___init__ C_Net ans)
theorem ok_Net___init__ (T : Tx K mg) : FnOk P w K mg base (L2.CX P w) 4 T.f_Net___init__ T.fd_Net___init__ ["self", "nodes", "links"] (spF K 3 (F_Net___init__ T.C_Net T.ans)) :=
  fnD_ok T.F_Net___init__ sc_Net___init__ rfl rfl fun cdv A outer s H E hr C =>
    (ss_cons (s_expr (e_call (x := "want_names") (ok_want_names T) defF_len C.tk (hr.mono (by decide)) rfl T.g_want_names T.F_want_names.kp T.b_want_names Plain.nil (a_cons (e_V 1) a_nil)))
      (ss_cons (s_S 3 C.nd (e_call (x := "pairs_of") (ok_pairs_of T) defF_len C.tk (hr.mono (by decide)) rfl T.g_pairs_of T.F_pairs_of.kp T.b_pairs_of Plain.nil (a_cons (e_V 2) (a_cons (e_dc (t := false) (un1 hr) C.calm C.nd (i_alt (i_seq (e_V 1)) (i_signs (e_V 1))) (blkOk_by2 (N := ["self", "nodes", "links", "pairs", "node"]) (sc := defScope s_Net___init__) (own := [("node", 4)]) rfl rfl (by decide +kernel)) (by decide) (fun _ _ _ _ _ => (g_N 4 C.nd)) (fun _ _ _ _ _ => c_yes) (fun _ _ _ _ _ => (e_V 4)) (fun _ _ _ _ _ => e_bl)) a_nil))))
      (ss_cons (s_if (t_pc (c_op r2_b op_gt (e_callB (x := "len") call_lenA l_len rfl T.z_len boot_len (a_cons (e_V 1) a_nil)) (e_cv T.cv_Net_MOST_NODES (e_rf rfl T.gC_Net))) rfl)
      (ss_one s_never)
      ss_nil)
      (ss_cons (s_if (t_pc (c_op r2_b op_gt (e_callB (x := "len") call_lenA l_len rfl T.z_len boot_len (a_cons (e_V 3) a_nil)) (e_cv T.cv_Net_MOST_LINKS (e_rf rfl T.gC_Net))) rfl)
      (ss_one s_never)
      ss_nil)
      (ss_cons (s_fld (cs := [T.C_Net]) (by simp only [List.mem_singleton, List.mem_cons, List.not_mem_nil, or_false, forall_eq_or_imp, forall_eq]; exact T.fd_Net_own_nodes) (e_V 0) (e_frz (e_callTy (x := "tuple") call_tuple_of l_tuple rfl T.z_tuple boot_tuple (a_cons (e_callB (call_sortedX C.calm (un65 hr)) (l_sorted C.calm) rfl T.z_sorted boot_sorted (a_cons (e_V 1) a_nil)) a_nil))))
      (ss_cons (s_fld (cs := [T.C_Net]) (by simp only [List.mem_singleton, List.mem_cons, List.not_mem_nil, or_false, forall_eq_or_imp, forall_eq]; exact T.fd_Net_own_links) (e_V 0) (e_frz (e_callTy (x := "tuple") call_tuple_of l_tuple rfl T.z_tuple boot_tuple (a_cons (e_V 3) a_nil))))
      (ss_one (s_fld (cs := [T.C_Net]) (by simp only [List.mem_singleton, List.mem_cons, List.not_mem_nil, or_false, forall_eq_or_imp, forall_eq]; exact T.fd_Net_own_near) (e_V 0) (e_frz (e_call (x := "neighbours_by_node") (ok_neighbours_by_node T) defF_len C.tk (hr.mono (by decide)) rfl T.g_neighbours_by_node T.F_neighbours_by_node.kp T.b_neighbours_by_node Plain.nil (a_cons (e_fld (cs := [T.C_Net]) (by simp only [List.mem_singleton, List.mem_cons, List.not_mem_nil, or_false, forall_eq_or_imp, forall_eq]; exact T.fd_Net_own_nodes) (e_V 0)) (a_cons (e_fld (cs := [T.C_Net]) (by simp only [List.mem_singleton, List.mem_cons, List.not_mem_nil, or_false, forall_eq_or_imp, forall_eq]; exact T.fd_Net_own_links) (e_V 0)) a_nil))))))))))))
def FR_Net___init__ (C_Net : Addr) (ans : Value → Value → Option Bool) : BF := fun ds => F_Net___init__ C_Net ans (ds ++ ([] : List PF.P).map .p)
theorem fr_Net___init__ (T : Tx K mg) : FnR P w K mg base (L2.CX P w) 4 T.f_Net___init__ (spR K (FR_Net___init__ T.C_Net T.ans)) := fn_raw (ok_Net___init__ T) defF_len T.b_Net___init__ Plain.nil
def B_Net_full (C_Net : Addr) (ans : Value → Value → Option Bool) : BS := (sSeq (sExpr (bCall (F_want_names ans) [] (bCons (bVar 1) bNil)))
      (sSeq (sIf (bTest (bOp (o2b (fun i j => decide (j < i))) (bCB oLen (bCons (bVar 1) bNil)) (bCV C_Net (.int 60) (bVar 0))))
      sNever
      sSkip)
      (sRet (bFrz (bMkV C_Net (FR_Net___init__ C_Net ans) (bVar 0) (bCons (bVar 1) (bCons (bLc2 (bEnum (bCons (bVar 1) bNil)) (gTp 2 (gCs (gNm 2) (gCs (gNm 3) gNl))) bYes (bAlt (bSeq (bSl (bVar 1) (bPart (bOp oPlus (bVar 2) (bC (.int 1)))) bNoPart)) (bSigns (bSl (bVar 1) (bPart (bOp oPlus (bVar 2) (bC (.int 1)))) bNoPart))) (gNm 4) bYes (bTup (bCons (bVar 3) (bCons (bVar 4) bNil))) [2, 3, 4] [4]) bNil)))))))
theorem sc_Net_full : FnScope ["cls", "nodes", "position", "one", "other"] ["cls", "nodes"] (defScope s_Net_full) := ⟨rfl, rfl, rfl, by decide +kernel, rfl, by decide +kernel, by decide +kernel⟩
def F_Net_full (C_Net : Addr) (ans : Value → Value → Option Bool) : BF := defF 2 5 (B_Net_full C_Net ans)
def FR_Net_full (C_Net : Addr) (ans : Value → Value → Option Bool) : BF := starF 1 (F_Net_full C_Net ans)
theorem fr_Net_full (T : Tx K mg) : FnR P w K mg base (L2.CX P w) 6 T.f_Net_full (spR K (FR_Net_full T.C_Net T.ans)) :=
  fnS_ok (N := ["cls", "nodes", "position", "one", "other"]) (ps := ["cls"]) (pv := "nodes") T.F_Net_full sc_Net_full (fun _ _ _ _ _ _ us rest h => match us, rest, h with | [a], [], _ => rfl | [a], _ :: _, _ => rfl) rfl rfl fun cdv A outer s H E hr C =>
    (ss_cons (s_expr (e_call (x := "want_names") (ok_want_names T) defF_len C.tk (hr.mono (by decide)) rfl T.g_want_names T.F_want_names.kp T.b_want_names Plain.nil (a_cons (e_V 1) a_nil)))
      (ss_cons (s_if (t_pc (c_op r2_b op_gt (e_callB (x := "len") call_lenA l_len rfl T.z_len boot_len (a_cons (e_V 1) a_nil)) (e_cv T.cv_Net_MOST_NODES (e_V 0))) rfl)
      (ss_one s_never)
      ss_nil)
      (ss_one (s_ret (e_frz (e_mkV T.mk_Net (fr_Net___init__ T) C.tk (hr.mono (by decide)) (e_V 0) (a_cons (e_V 1) (a_cons (e_lc2 C.calm C.nd (i_enum rfl T.z_enumerate (a_cons (e_V 1) a_nil)) (blkOk_by2 (N := ["cls", "nodes", "position", "one", "other"]) (sc := defScope s_Net_full) (own := [("position", 2), ("one", 3), ("other", 4)]) rfl rfl (by decide +kernel)) (vs1 := [4]) (by decide) (by decide) (by decide) (fun _ _ _ _ _ => (g_tup C.calm (gs_cons (g_N 2 C.nd) (gs_cons (g_N 3 C.nd) gs_nil)))) (fun _ _ _ _ _ => c_yes) (fun _ _ _ _ _ => (i_alt (i_seq (e_sl (e_V 1) (o_some (e_plus (e_V 2) e_int)) o_none)) (i_signs (e_sl (e_V 1) (o_some (e_plus (e_V 2) e_int)) o_none)))) (fun _ _ _ _ _ => (g_N 4 C.nd)) (fun _ _ _ _ _ => c_yes) (fun _ _ _ _ _ => (e_tup (a_cons (e_V 3) (a_cons (e_V 4) a_nil))))) a_nil))))))))
def B_Net_path (C_Net : Addr) (ans : Value → Value → Option Bool) : BS := (sSeq (sExpr (bCall (F_want_names ans) [] (bCons (bVar 1) bNil)))
      (sRet (bFrz (bMkV C_Net (FR_Net___init__ C_Net ans) (bVar 0) (bCons (bVar 1) (bCons (bCB oListZip (bCons (bVar 1) (bCons (bSl (bVar 1) (bPart (bC (.int 1))) bNoPart) bNil))) bNil))))))
theorem sc_Net_path : FnScope ["cls", "nodes"] ["cls", "nodes"] (defScope s_Net_path) := ⟨rfl, rfl, rfl, by decide +kernel, rfl, by decide +kernel, by decide +kernel⟩
def F_Net_path (C_Net : Addr) (ans : Value → Value → Option Bool) : BF := defF 2 2 (B_Net_path C_Net ans)
def FR_Net_path (C_Net : Addr) (ans : Value → Value → Option Bool) : BF := starF 1 (F_Net_path C_Net ans)
theorem fr_Net_path (T : Tx K mg) : FnR P w K mg base (L2.CX P w) 6 T.f_Net_path (spR K (FR_Net_path T.C_Net T.ans)) :=
  fnS_ok (N := ["cls", "nodes"]) (ps := ["cls"]) (pv := "nodes") T.F_Net_path sc_Net_path (fun _ _ _ _ _ _ us rest h => match us, rest, h with | [a], [], _ => rfl | [a], _ :: _, _ => rfl) rfl rfl fun cdv A outer s H E hr C =>
    (ss_cons (s_expr (e_call (x := "want_names") (ok_want_names T) defF_len C.tk (hr.mono (by decide)) rfl T.g_want_names T.F_want_names.kp T.b_want_names Plain.nil (a_cons (e_V 1) a_nil)))
      (ss_one (s_ret (e_frz (e_mkV T.mk_Net (fr_Net___init__ T) C.tk (hr.mono (by decide)) (e_V 0) (a_cons (e_V 1) (a_cons (e_listZip C.calm rfl T.z_list boot_list rfl T.z_zip boot_zip (a_cons (e_V 1) (a_cons (e_sl (e_V 1) (o_some e_int) o_none) a_nil))) a_nil)))))))
def B_Net_ring (C_Net : Addr) (ans : Value → Value → Option Bool) : BS := (sSeq (sExpr (bCall (F_want_names ans) [] (bCons (bVar 1) bNil)))
      (sSeq (sIf (bTest (bOp (oAlt (o2b (fun i j => decide (i < j))) (o2sb (fun i j => decide (i.cps.toList < j.cps.toList)))) (bCB oLen (bCons (bVar 1) bNil)) (bC (.int 3))))
      sNever
      sSkip)
      (sRet (bFrz (bMkV C_Net (FR_Net___init__ C_Net ans) (bVar 0) (bCons (bVar 1) (bCons (bCB oListZip (bCons (bVar 1) (bCons (bOp oPlus (bSl (bVar 1) (bPart (bC (.int 1))) bNoPart) (bSl (bVar 1) bNoPart (bPart (bC (.int 1))))) bNil))) bNil)))))))
theorem sc_Net_ring : FnScope ["cls", "nodes"] ["cls", "nodes"] (defScope s_Net_ring) := ⟨rfl, rfl, rfl, by decide +kernel, rfl, by decide +kernel, by decide +kernel⟩
def F_Net_ring (C_Net : Addr) (ans : Value → Value → Option Bool) : BF := defF 2 2 (B_Net_ring C_Net ans)
def FR_Net_ring (C_Net : Addr) (ans : Value → Value → Option Bool) : BF := starF 1 (F_Net_ring C_Net ans)
theorem fr_Net_ring (T : Tx K mg) : FnR P w K mg base (L2.CX P w) 6 T.f_Net_ring (spR K (FR_Net_ring T.C_Net T.ans)) :=
  fnS_ok (N := ["cls", "nodes"]) (ps := ["cls"]) (pv := "nodes") T.F_Net_ring sc_Net_ring (fun _ _ _ _ _ _ us rest h => match us, rest, h with | [a], [], _ => rfl | [a], _ :: _, _ => rfl) rfl rfl fun cdv A outer s H E hr C =>
    (ss_cons (s_expr (e_call (x := "want_names") (ok_want_names T) defF_len C.tk (hr.mono (by decide)) rfl T.g_want_names T.F_want_names.kp T.b_want_names Plain.nil (a_cons (e_V 1) a_nil)))
      (ss_cons (s_if (t_pc (c_alt (c_op r2_b op_lt (e_callB (x := "len") call_lenA l_len rfl T.z_len boot_len (a_cons (e_V 1) a_nil)) e_int) (c_op r2_sb op_lt_str (e_callB (x := "len") call_lenA l_len rfl T.z_len boot_len (a_cons (e_V 1) a_nil)) e_int)) rfl)
      (ss_one s_never)
      ss_nil)
      (ss_one (s_ret (e_frz (e_mkV T.mk_Net (fr_Net___init__ T) C.tk (hr.mono (by decide)) (e_V 0) (a_cons (e_V 1) (a_cons (e_listZip C.calm rfl T.z_list boot_list rfl T.z_zip boot_zip (a_cons (e_V 1) (a_cons (e_plus (e_sl (e_V 1) (o_some e_int) o_none) (e_sl (e_V 1) o_none (o_some e_int))) a_nil))) a_nil))))))))
def B__law_three (C_Net : Addr) (ans : Value → Value → Option Bool) : BS := (sSeq (sSet (bSl (bVar 0) bNoPart (bPart (bVar 1))) 2)
      (sSeq (sIf (bTest (bOp (o2eq false) (bVar 1) (bC (.int 1))))
      (sRet (bLst (bCons (bCM C_Net (FR_Net_path C_Net ans) (bC (.rf C_Net)) (bCons (bOp oSub (bVar 0) (bC (.int 0))) bNil)) (bCons (bC .non) (bCons (bCM C_Net (FR_Net_full C_Net ans) (bC (.rf C_Net)) (bCons (bOp oSub (bVar 0) (bC (.int 0))) bNil)) bNil)))))
      sSkip)
      (sSeq (sIf (bTest (bOp (o2eq false) (bVar 1) (bC (.int 2))))
      (sRet (bLst (bCons (bCM C_Net (FR_Net_path C_Net ans) (bC (.rf C_Net)) (bCons (bOp oSub (bVar 0) (bC (.int 0))) (bCons (bOp oSub (bVar 0) (bC (.int 1))) bNil))) (bCons (bC .non) (bCons (bCM C_Net (FR_Net_full C_Net ans) (bC (.rf C_Net)) (bCons (bOp oSub (bVar 0) (bC (.int 0))) (bCons (bOp oSub (bVar 0) (bC (.int 1))) bNil))) bNil)))))
      sSkip)
      (sSeq (sIf (bTest (bOp (o2eq false) (bVar 1) (bC (.int 3))))
      (sSeq (sAsg (bVar 2) (gTpL 3 (gCs (gNm 3) (gCs (gNm 4) (gCs (gNm 5) gNl)))))
      (sRet (bLst (bCons (bCM C_Net (FR_Net_path C_Net ans) (bC (.rf C_Net)) (bCons (bVar 3) (bCons (bVar 4) (bCons (bVar 5) bNil)))) (bCons (bCM C_Net (FR_Net_ring C_Net ans) (bC (.rf C_Net)) (bCons (bVar 3) (bCons (bVar 4) (bCons (bVar 5) bNil)))) (bCons (bCM C_Net (FR_Net_full C_Net ans) (bC (.rf C_Net)) (bCons (bVar 3) (bCons (bVar 4) (bCons (bVar 5) bNil)))) bNil))))))
      sSkip)
      (sSeq (sIf (bTest (bOp (o2eq false) (bVar 1) (bC (.int 4))))
      (sSeq (sAsg (bVar 2) (gTpL 4 (gCs (gNm 3) (gCs (gNm 4) (gCs (gNm 5) (gCs (gNm 6) gNl))))))
      (sRet (bLst (bCons (bCM C_Net (FR_Net_path C_Net ans) (bC (.rf C_Net)) (bCons (bVar 3) (bCons (bVar 4) (bCons (bVar 5) (bCons (bVar 6) bNil))))) (bCons (bCM C_Net (FR_Net_ring C_Net ans) (bC (.rf C_Net)) (bCons (bVar 3) (bCons (bVar 4) (bCons (bVar 5) (bCons (bVar 6) bNil))))) (bCons (bCM C_Net (FR_Net_full C_Net ans) (bC (.rf C_Net)) (bCons (bVar 3) (bCons (bVar 4) (bCons (bVar 5) (bCons (bVar 6) bNil))))) bNil))))))
      sSkip)
      (sSeq (sIf (bTest (bOp (o2eq false) (bVar 1) (bC (.int 5))))
      (sSeq (sAsg (bVar 2) (gTpL 5 (gCs (gNm 3) (gCs (gNm 4) (gCs (gNm 5) (gCs (gNm 6) (gCs (gNm 7) gNl)))))))
      (sRet (bLst (bCons (bCM C_Net (FR_Net_path C_Net ans) (bC (.rf C_Net)) (bCons (bVar 3) (bCons (bVar 4) (bCons (bVar 5) (bCons (bVar 6) (bCons (bVar 7) bNil)))))) (bCons (bCM C_Net (FR_Net_ring C_Net ans) (bC (.rf C_Net)) (bCons (bVar 3) (bCons (bVar 4) (bCons (bVar 5) (bCons (bVar 6) (bCons (bVar 7) bNil)))))) (bCons (bCM C_Net (FR_Net_full C_Net ans) (bC (.rf C_Net)) (bCons (bVar 3) (bCons (bVar 4) (bCons (bVar 5) (bCons (bVar 6) (bCons (bVar 7) bNil)))))) bNil))))))
      sSkip)
      (sSeq (sIf (bTest (bOp (o2eq false) (bVar 1) (bC (.int 6))))
      (sSeq (sAsg (bVar 2) (gTpL 6 (gCs (gNm 3) (gCs (gNm 4) (gCs (gNm 5) (gCs (gNm 6) (gCs (gNm 7) (gCs (gNm 8) gNl))))))))
      (sRet (bLst (bCons (bCM C_Net (FR_Net_path C_Net ans) (bC (.rf C_Net)) (bCons (bVar 3) (bCons (bVar 4) (bCons (bVar 5) (bCons (bVar 6) (bCons (bVar 7) (bCons (bVar 8) bNil))))))) (bCons (bCM C_Net (FR_Net_ring C_Net ans) (bC (.rf C_Net)) (bCons (bVar 3) (bCons (bVar 4) (bCons (bVar 5) (bCons (bVar 6) (bCons (bVar 7) (bCons (bVar 8) bNil))))))) (bCons (bCM C_Net (FR_Net_full C_Net ans) (bC (.rf C_Net)) (bCons (bVar 3) (bCons (bVar 4) (bCons (bVar 5) (bCons (bVar 6) (bCons (bVar 7) (bCons (bVar 8) bNil))))))) bNil))))))
      sSkip)
      (sSeq (sAsg (bVar 2) (gTpL 7 (gCs (gNm 3) (gCs (gNm 4) (gCs (gNm 5) (gCs (gNm 6) (gCs (gNm 7) (gCs (gNm 8) (gCs (gNm 9) gNl)))))))))
      (sRet (bLst (bCons (bCM C_Net (FR_Net_path C_Net ans) (bC (.rf C_Net)) (bCons (bVar 3) (bCons (bVar 4) (bCons (bVar 5) (bCons (bVar 6) (bCons (bVar 7) (bCons (bVar 8) (bCons (bVar 9) bNil)))))))) (bCons (bCM C_Net (FR_Net_ring C_Net ans) (bC (.rf C_Net)) (bCons (bVar 3) (bCons (bVar 4) (bCons (bVar 5) (bCons (bVar 6) (bCons (bVar 7) (bCons (bVar 8) (bCons (bVar 9) bNil)))))))) (bCons (bCM C_Net (FR_Net_full C_Net ans) (bC (.rf C_Net)) (bCons (bVar 3) (bCons (bVar 4) (bCons (bVar 5) (bCons (bVar 6) (bCons (bVar 7) (bCons (bVar 8) (bCons (bVar 9) bNil)))))))) bNil)))))))))))))
theorem sc__law_three : FnScope ["_law_some", "_law_size", "_law_one_row", "_law_a", "_law_b", "_law_c", "_law_d", "_law_e", "_law_f", "_law_g"] ["_law_some", "_law_size"] (defScope s__law_three) := ⟨rfl, rfl, rfl, by decide +kernel, rfl, by decide +kernel, by decide +kernel⟩
def F__law_three (C_Net : Addr) (ans : Value → Value → Option Bool) : BF := defF 2 10 (B__law_three C_Net ans)
theorem ok__law_three (T : Tx K mg) : FnOk P w K mg base (L2.CX P w) 7 T.f__law_three T.fd__law_three ["_law_some", "_law_size"] (spF K 2 (F__law_three T.C_Net T.ans)) :=
  fnD_ok T.F__law_three sc__law_three rfl rfl fun cdv A outer s H E hr C =>
    (ss_cons (s_S 2 C.nd (e_sl (e_V 0) o_none (o_some (e_V 1))))
      (ss_cons (s_if (t_pc (c_op r2_eq (op_eqD (un64 hr)) (e_V 1) e_int) rfl)
      (ss_one (s_ret (e_lst (a_cons (e_cm (e_rf rfl T.gC_Net) T.rd_Net T.cm_Net_path (fr_Net_path T) C.tk (hr.mono (by decide)) (a_cons (e_sub (un1 hr) (e_V 0) e_int (fun _ _ => rfl) (fun _ _ => rfl)) a_nil)) (a_cons e_non (a_cons (e_cm (e_rf rfl T.gC_Net) T.rd_Net T.cm_Net_full (fr_Net_full T) C.tk (hr.mono (by decide)) (a_cons (e_sub (un1 hr) (e_V 0) e_int (fun _ _ => rfl) (fun _ _ => rfl)) a_nil)) a_nil))))))
      ss_nil)
      (ss_cons (s_if (t_pc (c_op r2_eq (op_eqD (un64 hr)) (e_V 1) e_int) rfl)
      (ss_one (s_ret (e_lst (a_cons (e_cm (e_rf rfl T.gC_Net) T.rd_Net T.cm_Net_path (fr_Net_path T) C.tk (hr.mono (by decide)) (a_cons (e_sub (un1 hr) (e_V 0) e_int (fun _ _ => rfl) (fun _ _ => rfl)) (a_cons (e_sub (un1 hr) (e_V 0) e_int (fun _ _ => rfl) (fun _ _ => rfl)) a_nil))) (a_cons e_non (a_cons (e_cm (e_rf rfl T.gC_Net) T.rd_Net T.cm_Net_full (fr_Net_full T) C.tk (hr.mono (by decide)) (a_cons (e_sub (un1 hr) (e_V 0) e_int (fun _ _ => rfl) (fun _ _ => rfl)) (a_cons (e_sub (un1 hr) (e_V 0) e_int (fun _ _ => rfl) (fun _ _ => rfl)) a_nil))) a_nil))))))
      ss_nil)
      (ss_cons (s_if (t_pc (c_op r2_eq (op_eqD (un64 hr)) (e_V 1) e_int) rfl)
      (ss_cons (s_asg (e_V 2) (g_tupL C.calm (gs_cons (g_N 3 C.nd) (gs_cons (g_N 4 C.nd) (gs_cons (g_N 5 C.nd) gs_nil)))))
      (ss_one (s_ret (e_lst (a_cons (e_cm (e_rf rfl T.gC_Net) T.rd_Net T.cm_Net_path (fr_Net_path T) C.tk (hr.mono (by decide)) (a_cons (e_V 3) (a_cons (e_V 4) (a_cons (e_V 5) a_nil)))) (a_cons (e_cm (e_rf rfl T.gC_Net) T.rd_Net T.cm_Net_ring (fr_Net_ring T) C.tk (hr.mono (by decide)) (a_cons (e_V 3) (a_cons (e_V 4) (a_cons (e_V 5) a_nil)))) (a_cons (e_cm (e_rf rfl T.gC_Net) T.rd_Net T.cm_Net_full (fr_Net_full T) C.tk (hr.mono (by decide)) (a_cons (e_V 3) (a_cons (e_V 4) (a_cons (e_V 5) a_nil)))) a_nil)))))))
      ss_nil)
      (ss_cons (s_if (t_pc (c_op r2_eq (op_eqD (un64 hr)) (e_V 1) e_int) rfl)
      (ss_cons (s_asg (e_V 2) (g_tupL C.calm (gs_cons (g_N 3 C.nd) (gs_cons (g_N 4 C.nd) (gs_cons (g_N 5 C.nd) (gs_cons (g_N 6 C.nd) gs_nil))))))
      (ss_one (s_ret (e_lst (a_cons (e_cm (e_rf rfl T.gC_Net) T.rd_Net T.cm_Net_path (fr_Net_path T) C.tk (hr.mono (by decide)) (a_cons (e_V 3) (a_cons (e_V 4) (a_cons (e_V 5) (a_cons (e_V 6) a_nil))))) (a_cons (e_cm (e_rf rfl T.gC_Net) T.rd_Net T.cm_Net_ring (fr_Net_ring T) C.tk (hr.mono (by decide)) (a_cons (e_V 3) (a_cons (e_V 4) (a_cons (e_V 5) (a_cons (e_V 6) a_nil))))) (a_cons (e_cm (e_rf rfl T.gC_Net) T.rd_Net T.cm_Net_full (fr_Net_full T) C.tk (hr.mono (by decide)) (a_cons (e_V 3) (a_cons (e_V 4) (a_cons (e_V 5) (a_cons (e_V 6) a_nil))))) a_nil)))))))
      ss_nil)
      (ss_cons (s_if (t_pc (c_op r2_eq (op_eqD (un64 hr)) (e_V 1) e_int) rfl)
      (ss_cons (s_asg (e_V 2) (g_tupL C.calm (gs_cons (g_N 3 C.nd) (gs_cons (g_N 4 C.nd) (gs_cons (g_N 5 C.nd) (gs_cons (g_N 6 C.nd) (gs_cons (g_N 7 C.nd) gs_nil)))))))
      (ss_one (s_ret (e_lst (a_cons (e_cm (e_rf rfl T.gC_Net) T.rd_Net T.cm_Net_path (fr_Net_path T) C.tk (hr.mono (by decide)) (a_cons (e_V 3) (a_cons (e_V 4) (a_cons (e_V 5) (a_cons (e_V 6) (a_cons (e_V 7) a_nil)))))) (a_cons (e_cm (e_rf rfl T.gC_Net) T.rd_Net T.cm_Net_ring (fr_Net_ring T) C.tk (hr.mono (by decide)) (a_cons (e_V 3) (a_cons (e_V 4) (a_cons (e_V 5) (a_cons (e_V 6) (a_cons (e_V 7) a_nil)))))) (a_cons (e_cm (e_rf rfl T.gC_Net) T.rd_Net T.cm_Net_full (fr_Net_full T) C.tk (hr.mono (by decide)) (a_cons (e_V 3) (a_cons (e_V 4) (a_cons (e_V 5) (a_cons (e_V 6) (a_cons (e_V 7) a_nil)))))) a_nil)))))))
      ss_nil)
      (ss_cons (s_if (t_pc (c_op r2_eq (op_eqD (un64 hr)) (e_V 1) e_int) rfl)
      (ss_cons (s_asg (e_V 2) (g_tupL C.calm (gs_cons (g_N 3 C.nd) (gs_cons (g_N 4 C.nd) (gs_cons (g_N 5 C.nd) (gs_cons (g_N 6 C.nd) (gs_cons (g_N 7 C.nd) (gs_cons (g_N 8 C.nd) gs_nil))))))))
      (ss_one (s_ret (e_lst (a_cons (e_cm (e_rf rfl T.gC_Net) T.rd_Net T.cm_Net_path (fr_Net_path T) C.tk (hr.mono (by decide)) (a_cons (e_V 3) (a_cons (e_V 4) (a_cons (e_V 5) (a_cons (e_V 6) (a_cons (e_V 7) (a_cons (e_V 8) a_nil))))))) (a_cons (e_cm (e_rf rfl T.gC_Net) T.rd_Net T.cm_Net_ring (fr_Net_ring T) C.tk (hr.mono (by decide)) (a_cons (e_V 3) (a_cons (e_V 4) (a_cons (e_V 5) (a_cons (e_V 6) (a_cons (e_V 7) (a_cons (e_V 8) a_nil))))))) (a_cons (e_cm (e_rf rfl T.gC_Net) T.rd_Net T.cm_Net_full (fr_Net_full T) C.tk (hr.mono (by decide)) (a_cons (e_V 3) (a_cons (e_V 4) (a_cons (e_V 5) (a_cons (e_V 6) (a_cons (e_V 7) (a_cons (e_V 8) a_nil))))))) a_nil)))))))
      ss_nil)
      (ss_cons (s_asg (e_V 2) (g_tupL C.calm (gs_cons (g_N 3 C.nd) (gs_cons (g_N 4 C.nd) (gs_cons (g_N 5 C.nd) (gs_cons (g_N 6 C.nd) (gs_cons (g_N 7 C.nd) (gs_cons (g_N 8 C.nd) (gs_cons (g_N 9 C.nd) gs_nil)))))))))
      (ss_one (s_ret (e_lst (a_cons (e_cm (e_rf rfl T.gC_Net) T.rd_Net T.cm_Net_path (fr_Net_path T) C.tk (hr.mono (by decide)) (a_cons (e_V 3) (a_cons (e_V 4) (a_cons (e_V 5) (a_cons (e_V 6) (a_cons (e_V 7) (a_cons (e_V 8) (a_cons (e_V 9) a_nil)))))))) (a_cons (e_cm (e_rf rfl T.gC_Net) T.rd_Net T.cm_Net_ring (fr_Net_ring T) C.tk (hr.mono (by decide)) (a_cons (e_V 3) (a_cons (e_V 4) (a_cons (e_V 5) (a_cons (e_V 6) (a_cons (e_V 7) (a_cons (e_V 8) (a_cons (e_V 9) a_nil)))))))) (a_cons (e_cm (e_rf rfl T.gC_Net) T.rd_Net T.cm_Net_full (fr_Net_full T) C.tk (hr.mono (by decide)) (a_cons (e_V 3) (a_cons (e_V 4) (a_cons (e_V 5) (a_cons (e_V 6) (a_cons (e_V 7) (a_cons (e_V 8) (a_cons (e_V 9) a_nil)))))))) a_nil))))))))))))))
def FR__law_three (C_Net : Addr) (ans : Value → Value → Option Bool) : BF := fun ds => F__law_three C_Net ans (ds ++ ([] : List PF.P).map .p)
def B__law_link : BS := (sRet (bIf (bTest (bOp (oAlt (o2b (fun i j => decide (i < j))) (o2sb (fun i j => decide (i.cps.toList < j.cps.toList)))) (bVar 0) (bVar 1))) (bTup (bCons (bVar 0) (bCons (bVar 1) bNil))) (bTup (bCons (bVar 1) (bCons (bVar 0) bNil)))))
theorem sc__law_link : FnScope ["_law_this", "_law_mate"] ["_law_this", "_law_mate"] (defScope s__law_link) := ⟨rfl, rfl, rfl, by decide +kernel, rfl, by decide +kernel, by decide +kernel⟩
def F__law_link : BF := defF 2 2 B__law_link
theorem ok__law_link (T : Tx K mg) : FnOk P w K mg base (L2.CX P w) 1 T.f__law_link T.fd__law_link ["_law_this", "_law_mate"] (spF K 2 F__law_link) :=
  fnD_ok T.F__law_link sc__law_link rfl rfl fun cdv A outer s H E hr C =>
    (ss_one (s_ret (e_if (t_pc (c_alt (c_op r2_b op_lt (e_V 0) (e_V 1)) (c_op r2_sb op_lt_str (e_V 0) (e_V 1))) rfl) (e_tup (a_cons (e_V 0) (a_cons (e_V 1) a_nil))) (e_tup (a_cons (e_V 1) (a_cons (e_V 0) a_nil))))))
def FR__law_link : BF := fun ds => F__law_link (ds ++ ([] : List PF.P).map .p)
def B_Net___len__ (C_Net : Addr) : BS := (sRet (bCB oLen (bCons (bFld [C_Net] "own_nodes" (bVar 0)) bNil)))
theorem sc_Net___len__ : FnScope ["self"] ["self"] (defScope s_Net___len__) := ⟨rfl, rfl, rfl, by decide +kernel, rfl, by decide +kernel, by decide +kernel⟩
def F_Net___len__ (C_Net : Addr) : BF := defF 1 1 (B_Net___len__ C_Net)
theorem ok_Net___len__ (T : Tx K mg) : FnOk P w K mg base (L2.CX P w) 1 T.f_Net___len__ T.fd_Net___len__ ["self"] (spF K 1 (F_Net___len__ T.C_Net)) :=
  fnD_ok T.F_Net___len__ sc_Net___len__ rfl rfl fun cdv A outer s H E hr C =>
    (ss_one (s_ret (e_callB (x := "len") call_lenA l_len rfl T.z_len boot_len (a_cons (e_fld (cs := [T.C_Net]) (by simp only [List.mem_singleton, List.mem_cons, List.not_mem_nil, or_false, forall_eq_or_imp, forall_eq]; exact T.fd_Net_own_nodes) (e_V 0)) a_nil))))
def FR_Net___len__ (C_Net : Addr) : BF := fun ds => F_Net___len__ C_Net (ds ++ ([] : List PF.P).map .p)
theorem fr_Net___len__ (T : Tx K mg) : FnR P w K mg base (L2.CX P w) 1 T.f_Net___len__ (spR K (FR_Net___len__ T.C_Net)) := fn_raw (ok_Net___len__ T) defF_len T.b_Net___len__ Plain.nil
def B_Net_size (C_Net : Addr) : BS := (sRet (bCB oLen (bCons (bFld [C_Net] "own_links" (bVar 0)) bNil)))
theorem sc_Net_size : FnScope ["self"] ["self"] (defScope s_Net_size) := ⟨rfl, rfl, rfl, by decide +kernel, rfl, by decide +kernel, by decide +kernel⟩
def F_Net_size (C_Net : Addr) : BF := defF 1 1 (B_Net_size C_Net)
theorem ok_Net_size (T : Tx K mg) : FnOk P w K mg base (L2.CX P w) 1 T.f_Net_size T.fd_Net_size ["self"] (spF K 1 (F_Net_size T.C_Net)) :=
  fnD_ok T.F_Net_size sc_Net_size rfl rfl fun cdv A outer s H E hr C =>
    (ss_one (s_ret (e_callB (x := "len") call_lenA l_len rfl T.z_len boot_len (a_cons (e_fld (cs := [T.C_Net]) (by simp only [List.mem_singleton, List.mem_cons, List.not_mem_nil, or_false, forall_eq_or_imp, forall_eq]; exact T.fd_Net_own_links) (e_V 0)) a_nil))))
def FR_Net_size (C_Net : Addr) : BF := fun ds => F_Net_size C_Net (ds ++ ([] : List PF.P).map .p)
theorem fr_Net_size (T : Tx K mg) : FnR P w K mg base (L2.CX P w) 1 T.f_Net_size (spR K (FR_Net_size T.C_Net)) := fn_raw (ok_Net_size T) defF_len T.b_Net_size Plain.nil
def B_Net_links (C_Net : Addr) : BS := (sRet (bCB oList (bCons (bFld [C_Net] "own_links" (bVar 0)) bNil)))
theorem sc_Net_links : FnScope ["self"] ["self"] (defScope s_Net_links) := ⟨rfl, rfl, rfl, by decide +kernel, rfl, by decide +kernel, by decide +kernel⟩
def F_Net_links (C_Net : Addr) : BF := defF 1 1 (B_Net_links C_Net)
theorem ok_Net_links (T : Tx K mg) : FnOk P w K mg base (L2.CX P w) 1 T.f_Net_links T.fd_Net_links ["self"] (spF K 1 (F_Net_links T.C_Net)) :=
  fnD_ok T.F_Net_links sc_Net_links rfl rfl fun cdv A outer s H E hr C =>
    (ss_one (s_ret (e_callTy (x := "list") call_list_of l_list rfl T.z_list boot_list (a_cons (e_fld (cs := [T.C_Net]) (by simp only [List.mem_singleton, List.mem_cons, List.not_mem_nil, or_false, forall_eq_or_imp, forall_eq]; exact T.fd_Net_own_links) (e_V 0)) a_nil))))
def FR_Net_links (C_Net : Addr) : BF := fun ds => F_Net_links C_Net (ds ++ ([] : List PF.P).map .p)
theorem fr_Net_links (T : Tx K mg) : FnR P w K mg base (L2.CX P w) 1 T.f_Net_links (spR K (FR_Net_links T.C_Net)) := fn_raw (ok_Net_links T) defF_len T.b_Net_links Plain.nil
def B_Net_nodes (C_Net : Addr) : BS := (sRet (bCB oList (bCons (bFld [C_Net] "own_nodes" (bVar 0)) bNil)))
theorem sc_Net_nodes : FnScope ["self"] ["self"] (defScope s_Net_nodes) := ⟨rfl, rfl, rfl, by decide +kernel, rfl, by decide +kernel, by decide +kernel⟩
def F_Net_nodes (C_Net : Addr) : BF := defF 1 1 (B_Net_nodes C_Net)
theorem ok_Net_nodes (T : Tx K mg) : FnOk P w K mg base (L2.CX P w) 1 T.f_Net_nodes T.fd_Net_nodes ["self"] (spF K 1 (F_Net_nodes T.C_Net)) :=
  fnD_ok T.F_Net_nodes sc_Net_nodes rfl rfl fun cdv A outer s H E hr C =>
    (ss_one (s_ret (e_callTy (x := "list") call_list_of l_list rfl T.z_list boot_list (a_cons (e_fld (cs := [T.C_Net]) (by simp only [List.mem_singleton, List.mem_cons, List.not_mem_nil, or_false, forall_eq_or_imp, forall_eq]; exact T.fd_Net_own_nodes) (e_V 0)) a_nil))))
def FR_Net_nodes (C_Net : Addr) : BF := fun ds => F_Net_nodes C_Net (ds ++ ([] : List PF.P).map .p)
theorem fr_Net_nodes (T : Tx K mg) : FnR P w K mg base (L2.CX P w) 1 T.f_Net_nodes (spR K (FR_Net_nodes T.C_Net)) := fn_raw (ok_Net_nodes T) defF_len T.b_Net_nodes Plain.nil
def B_Net___eq__ (C_Net : Addr) (ans : Value → Value → Option Bool) : BS := (sRet (bAndV (bCB (oIsi ans) (bCons (bVar 1) (bCons (bC (.rf C_Net)) bNil))) (bAndV (bOp (o2eq false) (bFld [C_Net] "own_nodes" (bVar 0)) (bFld [C_Net] "own_nodes" (bVar 1))) (bOp (o2eq false) (bFld [C_Net] "own_links" (bVar 0)) (bFld [C_Net] "own_links" (bVar 1))))))
theorem sc_Net___eq__ : FnScope ["self", "other"] ["self", "other"] (defScope s_Net___eq__) := ⟨rfl, rfl, rfl, by decide +kernel, rfl, by decide +kernel, by decide +kernel⟩
def F_Net___eq__ (C_Net : Addr) (ans : Value → Value → Option Bool) : BF := defF 2 2 (B_Net___eq__ C_Net ans)
theorem ok_Net___eq__ (T : Tx K mg) : FnOk P w K mg base (L2.CX P w) 1 T.f_Net___eq__ T.fd_Net___eq__ ["self", "other"] (spF K 2 (F_Net___eq__ T.C_Net T.ans)) :=
  fnD_ok T.F_Net___eq__ sc_Net___eq__ rfl rfl fun cdv A outer s H E hr C =>
    (ss_one (s_ret (e_and (e_callB call_isiA (l_isi T.isi) rfl T.z_isinstance boot_isinstance (a_cons (e_V 1) (a_cons (e_rf rfl T.gC_Net) a_nil))) (e_and (e_pc (c_op r2_eq (op_eqD (un64 hr)) (e_fld (cs := [T.C_Net]) (by simp only [List.mem_singleton, List.mem_cons, List.not_mem_nil, or_false, forall_eq_or_imp, forall_eq]; exact T.fd_Net_own_nodes) (e_V 0)) (e_fld (cs := [T.C_Net]) (by simp only [List.mem_singleton, List.mem_cons, List.not_mem_nil, or_false, forall_eq_or_imp, forall_eq]; exact T.fd_Net_own_nodes) (e_V 1))) rfl) (e_one (e_pc (c_op r2_eq (op_eqD (un64 hr)) (e_fld (cs := [T.C_Net]) (by simp only [List.mem_singleton, List.mem_cons, List.not_mem_nil, or_false, forall_eq_or_imp, forall_eq]; exact T.fd_Net_own_links) (e_V 0)) (e_fld (cs := [T.C_Net]) (by simp only [List.mem_singleton, List.mem_cons, List.not_mem_nil, or_false, forall_eq_or_imp, forall_eq]; exact T.fd_Net_own_links) (e_V 1))) rfl))))))
def FR_Net___eq__ (C_Net : Addr) (ans : Value → Value → Option Bool) : BF := fun ds => F_Net___eq__ C_Net ans (ds ++ ([] : List PF.P).map .p)
theorem fr_Net___eq__ (T : Tx K mg) : FnR P w K mg base (L2.CX P w) 1 T.f_Net___eq__ (spR K (FR_Net___eq__ T.C_Net T.ans)) := fn_raw (ok_Net___eq__ T) defF_len T.b_Net___eq__ Plain.nil
def B__law_is (C_Net : Addr) (ans : Value → Value → Option Bool) : BS := (sSeq (sSet (bLst (bCons (bMeth C_Net "nodes" (F_Net_nodes C_Net) [] (bVar 0) bNil) (bCons (bMeth C_Net "links" (F_Net_links C_Net) [] (bVar 0) bNil) (bCons (bProp C_Net 1 (F_Net_size C_Net) (bVar 0)) (bCons (bCB (lAlt oLen (oLenO C_Net (FR_Net___len__ C_Net))) (bCons (bVar 0) bNil)) bNil))))) 3)
      (sSeq (sIf (bTest (bOp (oAlt (o2sb (fun i j => !decide (i = j))) (o2eq true)) (bCB oRepr (bCons (bVar 3) bNil)) (bCB oRepr (bCons (bLst (bCons (bCB oSorted (bCons (bVar 1) bNil)) (bCons (bCB oSorted (bCons (bVar 2) bNil)) (bCons (bCB oLen (bCons (bVar 2) bNil)) (bCons (bCB oLen (bCons (bVar 1) bNil)) bNil))))) bNil))))
      (sRet (bC (.bl false)))
      sSkip)
      (sRet (bAndV (bCB (oIsi ans) (bCons (bVar 0) (bCons (bC (.rf C_Net)) bNil))) (bOp (oAlt (o2eq false) (oOwn C_Net (FR_Net___eq__ C_Net ans))) (bVar 0) (bMk C_Net (FR_Net___init__ C_Net ans) (bCons (bVar 1) (bCons (bVar 2) bNil))))))))
theorem sc__law_is : FnScope ["_law_made", "_law_spots", "_law_pairs", "_law_told"] ["_law_made", "_law_spots", "_law_pairs"] (defScope s__law_is) := ⟨rfl, rfl, rfl, by decide +kernel, rfl, by decide +kernel, by decide +kernel⟩
def F__law_is (C_Net : Addr) (ans : Value → Value → Option Bool) : BF := defF 3 4 (B__law_is C_Net ans)
theorem ok__law_is (T : Tx K mg) : FnOk P w K mg base (L2.CX P w) 6 T.f__law_is T.fd__law_is ["_law_made", "_law_spots", "_law_pairs"] (spF K 3 (F__law_is T.C_Net T.ans)) :=
  fnD_ok T.F__law_is sc__law_is rfl rfl fun cdv A outer s H E hr C =>
    (ss_cons (s_S 3 C.nd (e_lst (a_cons (e_meth0 (e_V 0) T.c_Net T.m_Net_nodes (ok_Net_nodes T) defF_len C.tk (hr.mono (by decide)) T.b_Net_nodes Plain.nil) (a_cons (e_meth0 (e_V 0) T.c_Net T.m_Net_links (ok_Net_links T) defF_len C.tk (hr.mono (by decide)) T.b_Net_links Plain.nil) (a_cons (e_prop (e_V 0) T.c_Net T.p_Net_size (ok_Net_size T) (hr.mono (by decide)) T.b_Net_size) (a_cons (e_callB (x := "len") (call_lenA.or (call_lenO T.dn_Net___len__ (fr_Net___len__ T) (hr.mono (by decide)))) (l_alt l_len l_lenO) rfl T.z_len boot_len (a_cons (e_V 0) a_nil)) a_nil))))))
      (ss_cons (s_if (t_pc (c_alt (c_op r2_sb op_neT (e_callB (x := "repr") (call_reprX hr) l_repr rfl T.z_repr boot_repr (a_cons (e_V 3) a_nil)) (e_callB (x := "repr") (call_reprX hr) l_repr rfl T.z_repr boot_repr (a_cons (e_lst (a_cons (e_callB (call_sortedX C.calm (un65 hr)) (l_sorted C.calm) rfl T.z_sorted boot_sorted (a_cons (e_V 1) a_nil)) (a_cons (e_callB (call_sortedX C.calm (un65 hr)) (l_sorted C.calm) rfl T.z_sorted boot_sorted (a_cons (e_V 2) a_nil)) (a_cons (e_callB (x := "len") call_lenA l_len rfl T.z_len boot_len (a_cons (e_V 2) a_nil)) (a_cons (e_callB (x := "len") call_lenA l_len rfl T.z_len boot_len (a_cons (e_V 1) a_nil)) a_nil))))) a_nil))) (c_op r2_ne (op_neD (un64 hr)) (e_callB (x := "repr") (call_reprX hr) l_repr rfl T.z_repr boot_repr (a_cons (e_V 3) a_nil)) (e_callB (x := "repr") (call_reprX hr) l_repr rfl T.z_repr boot_repr (a_cons (e_lst (a_cons (e_callB (call_sortedX C.calm (un65 hr)) (l_sorted C.calm) rfl T.z_sorted boot_sorted (a_cons (e_V 1) a_nil)) (a_cons (e_callB (call_sortedX C.calm (un65 hr)) (l_sorted C.calm) rfl T.z_sorted boot_sorted (a_cons (e_V 2) a_nil)) (a_cons (e_callB (x := "len") call_lenA l_len rfl T.z_len boot_len (a_cons (e_V 2) a_nil)) (a_cons (e_callB (x := "len") call_lenA l_len rfl T.z_len boot_len (a_cons (e_V 1) a_nil)) a_nil))))) a_nil)))) rfl)
      (ss_one (s_ret e_bl))
      ss_nil)
      (ss_one (s_ret (e_and (e_callB call_isiA (l_isi T.isi) rfl T.z_isinstance boot_isinstance (a_cons (e_V 0) (a_cons (e_rf rfl T.gC_Net) a_nil))) (e_one (e_pc (c_alt (c_op r2_eq (op_eqD (un64 hr)) (e_V 0) (e_mk T.mk_Net (fr_Net___init__ T) C.tk (hr.mono (by decide)) rfl T.gC_Net (a_cons (e_V 1) (a_cons (e_V 2) a_nil)))) (c_own (fun _ _ => rfl) T.dn_Net___eq__ (fr_Net___eq__ T) C.tk (hr.mono (by decide)) (un0 hr) (e_V 0) (e_mk T.mk_Net (fr_Net___init__ T) C.tk (hr.mono (by decide)) rfl T.gC_Net (a_cons (e_V 1) (a_cons (e_V 2) a_nil))))) rfl)))))))
def FR__law_is (C_Net : Addr) (ans : Value → Value → Option Bool) : BF := fun ds => F__law_is C_Net ans (ds ++ ([] : List PF.P).map .p)
def B_want_net (C_Net : Addr) (ans : Value → Value → Option Bool) : BS := (sIf (bNot (bTest (bCB (oIsi ans) (bCons (bVar 0) (bCons (bC (.rf C_Net)) bNil)))))
      sNever
      sSkip)
theorem sc_want_net : FnScope ["value"] ["value"] (defScope s_want_net) := ⟨rfl, rfl, rfl, by decide +kernel, rfl, by decide +kernel, by decide +kernel⟩
def F_want_net (C_Net : Addr) (ans : Value → Value → Option Bool) : BF := defF 1 1 (B_want_net C_Net ans)
theorem ok_want_net (T : Tx K mg) : FnOk P w K mg base (L2.CX P w) 1 T.f_want_net T.fd_want_net ["value"] (spF K 1 (F_want_net T.C_Net T.ans)) :=
  fnD_ok T.F_want_net sc_want_net rfl rfl fun cdv A outer s H E hr C =>
    (ss_one (s_if (t_not (t_val (e_callB call_isiA (l_isi T.isi) rfl T.z_isinstance boot_isinstance (a_cons (e_V 0) (a_cons (e_rf rfl T.gC_Net) a_nil)))))
      (ss_one s_never)
      ss_nil))
def FR_want_net (C_Net : Addr) (ans : Value → Value → Option Bool) : BF := fun ds => F_want_net C_Net ans (ds ++ ([] : List PF.P).map .p)
def B_Net_has_link (C_Net : Addr) (ans : Value → Value → Option Bool) : BS := (sRet (bAndV (bCall (F_is_link ans) [] (bCons (bVar 1) bNil)) (bOp (oIn false) (bOp oSub (bVar 1) (bC (.int 1))) (bGet2 (bFld [C_Net] "own_near" (bVar 0)) (bOp oSub (bVar 1) (bC (.int 0))) (bTup bNil)))))
theorem sc_Net_has_link : FnScope ["self", "value"] ["self", "value"] (defScope s_Net_has_link) := ⟨rfl, rfl, rfl, by decide +kernel, rfl, by decide +kernel, by decide +kernel⟩
def F_Net_has_link (C_Net : Addr) (ans : Value → Value → Option Bool) : BF := defF 2 2 (B_Net_has_link C_Net ans)
theorem ok_Net_has_link (T : Tx K mg) : FnOk P w K mg base (L2.CX P w) 3 T.f_Net_has_link T.fd_Net_has_link ["self", "value"] (spF K 2 (F_Net_has_link T.C_Net T.ans)) :=
  fnD_ok T.F_Net_has_link sc_Net_has_link rfl rfl fun cdv A outer s H E hr C =>
    (ss_one (s_ret (e_and (e_call (x := "is_link") (ok_is_link T) defF_len C.tk (hr.mono (by decide)) rfl T.g_is_link T.F_is_link.kp T.b_is_link Plain.nil (a_cons (e_V 1) a_nil)) (e_one (e_pc (c_op r2_in (op_inA (un65 hr)) (e_sub (un1 hr) (e_V 1) e_int (fun _ _ => rfl) (fun _ _ => rfl)) (e_get2 (un1 hr) (e_fld (cs := [T.C_Net]) (by simp only [List.mem_singleton, List.mem_cons, List.not_mem_nil, or_false, forall_eq_or_imp, forall_eq]; exact T.fd_Net_own_near) (e_V 0)) (e_sub (un1 hr) (e_V 1) e_int (fun _ _ => rfl) (fun _ _ => rfl)) (e_tup a_nil) ⟨rfl, rfl, rfl, rfl⟩)) rfl)))))
def FR_Net_has_link (C_Net : Addr) (ans : Value → Value → Option Bool) : BF := fun ds => F_Net_has_link C_Net ans (ds ++ ([] : List PF.P).map .p)
theorem fr_Net_has_link (T : Tx K mg) : FnR P w K mg base (L2.CX P w) 3 T.f_Net_has_link (spR K (FR_Net_has_link T.C_Net T.ans)) := fn_raw (ok_Net_has_link T) defF_len T.b_Net_has_link Plain.nil
def B_Net_is_part_of (C_Net : Addr) (ans : Value → Value → Option Bool) : BS := (sSeq (sExpr (bCall (F_want_net C_Net ans) [] (bCons (bVar 1) bNil)))
      (sSeq (sSet (bCB oAll (bCons (bLc (bAlt (bSeq (bFld [C_Net] "own_nodes" (bVar 0))) (bSigns (bFld [C_Net] "own_nodes" (bVar 0)))) (gNm 3) bYes (bOp (oIn false) (bVar 3) (bFld [C_Net] "own_near" (bVar 1))) [3]) bNil)) 2)
      (sRet (bAndV (bVar 2) (bCB oAll (bCons (bLc (bAlt (bSeq (bFld [C_Net] "own_links" (bVar 0))) (bSigns (bFld [C_Net] "own_links" (bVar 0)))) (gNm 4) bYes (bMeth C_Net "has_link" (F_Net_has_link C_Net ans) [] (bVar 1) (bCons (bVar 4) bNil)) [4]) bNil))))))
theorem sc_Net_is_part_of : FnScope ["self", "other", "has_nodes", "node", "link"] ["self", "other"] (defScope s_Net_is_part_of) := ⟨rfl, rfl, rfl, by decide +kernel, rfl, by decide +kernel, by decide +kernel⟩
def F_Net_is_part_of (C_Net : Addr) (ans : Value → Value → Option Bool) : BF := defF 2 5 (B_Net_is_part_of C_Net ans)
theorem ok_Net_is_part_of (T : Tx K mg) : FnOk P w K mg base (L2.CX P w) 4 T.f_Net_is_part_of T.fd_Net_is_part_of ["self", "other"] (spF K 2 (F_Net_is_part_of T.C_Net T.ans)) :=
  fnD_ok T.F_Net_is_part_of sc_Net_is_part_of rfl rfl fun cdv A outer s H E hr C =>
    (ss_cons (s_expr (e_call (x := "want_net") (ok_want_net T) defF_len C.tk (hr.mono (by decide)) rfl T.g_want_net T.F_want_net.kp T.b_want_net Plain.nil (a_cons (e_V 1) a_nil)))
      (ss_cons (s_S 2 C.nd (e_callB (x := "all") (cr_all C.calm) l_all rfl T.z_all boot_all (a_cons (e_lc C.calm C.nd (i_alt (i_seq (e_fld (cs := [T.C_Net]) (by simp only [List.mem_singleton, List.mem_cons, List.not_mem_nil, or_false, forall_eq_or_imp, forall_eq]; exact T.fd_Net_own_nodes) (e_V 0))) (i_signs (e_fld (cs := [T.C_Net]) (by simp only [List.mem_singleton, List.mem_cons, List.not_mem_nil, or_false, forall_eq_or_imp, forall_eq]; exact T.fd_Net_own_nodes) (e_V 0)))) (blkOk_by2 (N := ["self", "other", "has_nodes", "node", "link"]) (sc := defScope s_Net_is_part_of) (own := [("node", 3)]) rfl rfl (by decide +kernel)) (by decide) (fun _ _ _ _ _ => (g_N 3 C.nd)) (fun _ _ _ _ _ => c_yes) (fun _ _ _ _ _ => (e_pc (c_op r2_in (op_inA (un65 hr)) (e_V 3) (e_fld (cs := [T.C_Net]) (by simp only [List.mem_singleton, List.mem_cons, List.not_mem_nil, or_false, forall_eq_or_imp, forall_eq]; exact T.fd_Net_own_near) (e_V 1))) rfl))) a_nil)))
      (ss_one (s_ret (e_and (e_V 2) (e_one (e_callB (x := "all") (cr_all C.calm) l_all rfl T.z_all boot_all (a_cons (e_lc C.calm C.nd (i_alt (i_seq (e_fld (cs := [T.C_Net]) (by simp only [List.mem_singleton, List.mem_cons, List.not_mem_nil, or_false, forall_eq_or_imp, forall_eq]; exact T.fd_Net_own_links) (e_V 0))) (i_signs (e_fld (cs := [T.C_Net]) (by simp only [List.mem_singleton, List.mem_cons, List.not_mem_nil, or_false, forall_eq_or_imp, forall_eq]; exact T.fd_Net_own_links) (e_V 0)))) (blkOk_by2 (N := ["self", "other", "has_nodes", "node", "link"]) (sc := defScope s_Net_is_part_of) (own := [("link", 4)]) rfl rfl (by decide +kernel)) (by decide) (fun _ _ _ _ _ => (g_N 4 C.nd)) (fun _ _ _ _ _ => c_yes) (fun _ _ _ _ _ => (e_meth (e_V 1) T.c_Net T.m_Net_has_link (ok_Net_has_link T) defF_len takes0 (hr.mono (by decide)) T.b_Net_has_link Plain.nil (a_cons (e_V 4) a_nil)))) a_nil))))))))
def FR_Net_is_part_of (C_Net : Addr) (ans : Value → Value → Option Bool) : BF := fun ds => F_Net_is_part_of C_Net ans (ds ++ ([] : List PF.P).map .p)
theorem fr_Net_is_part_of (T : Tx K mg) : FnR P w K mg base (L2.CX P w) 4 T.f_Net_is_part_of (spR K (FR_Net_is_part_of T.C_Net T.ans)) := fn_raw (ok_Net_is_part_of T) defF_len T.b_Net_is_part_of Plain.nil
def B_want_link (C_Net : Addr) (ans : Value → Value → Option Bool) : BS := (sSeq (sIf (bNot (bTest (bMeth C_Net "has_link" (F_Net_has_link C_Net ans) [] (bVar 0) (bCons (bVar 1) bNil))))
      sNever
      sSkip)
      (sRet (bCall F_in_sequence [] (bCons (bVar 1) bNil))))
theorem sc_want_link : FnScope ["net", "value"] ["net", "value"] (defScope s_want_link) := ⟨rfl, rfl, rfl, by decide +kernel, rfl, by decide +kernel, by decide +kernel⟩
def F_want_link (C_Net : Addr) (ans : Value → Value → Option Bool) : BF := defF 2 2 (B_want_link C_Net ans)
theorem ok_want_link (T : Tx K mg) : FnOk P w K mg base (L2.CX P w) 4 T.f_want_link T.fd_want_link ["net", "value"] (spF K 2 (F_want_link T.C_Net T.ans)) :=
  fnD_ok T.F_want_link sc_want_link rfl rfl fun cdv A outer s H E hr C =>
    (ss_cons (s_if (t_not (t_val (e_meth (e_V 0) T.c_Net T.m_Net_has_link (ok_Net_has_link T) defF_len C.tk (hr.mono (by decide)) T.b_Net_has_link Plain.nil (a_cons (e_V 1) a_nil))))
      (ss_one s_never)
      ss_nil)
      (ss_one (s_ret (e_call (x := "in_sequence") (ok_in_sequence T) defF_len C.tk (hr.mono (by decide)) rfl T.g_in_sequence T.F_in_sequence.kp T.b_in_sequence Plain.nil (a_cons (e_V 1) a_nil)))))
def FR_want_link (C_Net : Addr) (ans : Value → Value → Option Bool) : BF := fun ds => F_want_link C_Net ans (ds ++ ([] : List PF.P).map .p)
def B_Net___sub__ (C_Net : Addr) (ans : Value → Value → Option Bool) : BS := (sSeq (sSet (bCall (F_want_link C_Net ans) [] (bCons (bVar 0) (bCons (bVar 1) bNil))) 2)
      (sRet (bFrz (bMk C_Net (FR_Net___init__ C_Net ans) (bCons (bFld [C_Net] "own_nodes" (bVar 0)) (bCons (bLc (bAlt (bSeq (bFld [C_Net] "own_links" (bVar 0))) (bSigns (bFld [C_Net] "own_links" (bVar 0)))) (gNm 3) (bTest (bOp (o2eq true) (bVar 3) (bVar 2))) (bVar 3) [3]) bNil))))))
theorem sc_Net___sub__ : FnScope ["self", "other", "gone", "link"] ["self", "other"] (defScope s_Net___sub__) := ⟨rfl, rfl, rfl, by decide +kernel, rfl, by decide +kernel, by decide +kernel⟩
def F_Net___sub__ (C_Net : Addr) (ans : Value → Value → Option Bool) : BF := defF 2 4 (B_Net___sub__ C_Net ans)
theorem ok_Net___sub__ (T : Tx K mg) : FnOk P w K mg base (L2.CX P w) 6 T.f_Net___sub__ T.fd_Net___sub__ ["self", "other"] (spF K 2 (F_Net___sub__ T.C_Net T.ans)) :=
  fnD_ok T.F_Net___sub__ sc_Net___sub__ rfl rfl fun cdv A outer s H E hr C =>
    (ss_cons (s_S 2 C.nd (e_call (x := "want_link") (ok_want_link T) defF_len C.tk (hr.mono (by decide)) rfl T.g_want_link T.F_want_link.kp T.b_want_link Plain.nil (a_cons (e_V 0) (a_cons (e_V 1) a_nil))))
      (ss_one (s_ret (e_frz (e_mk T.mk_Net (fr_Net___init__ T) C.tk (hr.mono (by decide)) rfl T.gC_Net (a_cons (e_fld (cs := [T.C_Net]) (by simp only [List.mem_singleton, List.mem_cons, List.not_mem_nil, or_false, forall_eq_or_imp, forall_eq]; exact T.fd_Net_own_nodes) (e_V 0)) (a_cons (e_lc C.calm C.nd (i_alt (i_seq (e_fld (cs := [T.C_Net]) (by simp only [List.mem_singleton, List.mem_cons, List.not_mem_nil, or_false, forall_eq_or_imp, forall_eq]; exact T.fd_Net_own_links) (e_V 0))) (i_signs (e_fld (cs := [T.C_Net]) (by simp only [List.mem_singleton, List.mem_cons, List.not_mem_nil, or_false, forall_eq_or_imp, forall_eq]; exact T.fd_Net_own_links) (e_V 0)))) (blkOk_by2 (N := ["self", "other", "gone", "link"]) (sc := defScope s_Net___sub__) (own := [("link", 3)]) rfl rfl (by decide +kernel)) (by decide) (fun _ _ _ _ _ => (g_N 3 C.nd)) (fun _ _ _ _ _ => (c_one (t_pc (c_op r2_ne (op_neD (un64 hr)) (e_V 3) (e_V 2)) rfl))) (fun _ _ _ _ _ => (e_V 3))) a_nil)))))))
def FR_Net___sub__ (C_Net : Addr) (ans : Value → Value → Option Bool) : BF := fun ds => F_Net___sub__ C_Net ans (ds ++ ([] : List PF.P).map .p)
theorem fr_Net___sub__ (T : Tx K mg) : FnR P w K mg base (L2.CX P w) 6 T.f_Net___sub__ (spR K (FR_Net___sub__ T.C_Net T.ans)) := fn_raw (ok_Net___sub__ T) defF_len T.b_Net___sub__ Plain.nil
def B_Net_drawn_together (C_Net : Addr) (ans : Value → Value → Option Bool) : BS := (sSeq (sAsg (bCall (F_want_link C_Net ans) [] (bCons (bVar 0) (bCons (bVar 1) bNil))) (gTp 2 (gCs (gNm 2) (gCs (gNm 3) gNl))))
      (sSeq (sSet (bDc false (bAlt (bSeq (bFld [C_Net] "own_nodes" (bVar 0))) (bSigns (bFld [C_Net] "own_nodes" (bVar 0)))) (gNm 7) bYes (bVar 7) (bIf (bTest (bOp (o2eq false) (bVar 7) (bVar 3))) (bVar 2) (bVar 7)) [7]) 4)
      (sSeq (sSet (bDc true (bSeq (bFld [C_Net] "own_links" (bVar 0))) (gTp 2 (gCs (gNm 8) (gCs (gNm 9) gNl))) bYes (bCall F_in_sequence [] (bCons (bTup (bCons (bOp oSub (bVar 4) (bVar 8)) (bCons (bOp oSub (bVar 4) (bVar 9)) bNil))) bNil)) (bC (.bl true)) [8, 9]) 5)
      (sSeq (sSet (bLc (bAlt (bSeq (bFld [C_Net] "own_nodes" (bVar 0))) (bSigns (bFld [C_Net] "own_nodes" (bVar 0)))) (gNm 7) (bTest (bOp (o2eq true) (bVar 7) (bVar 3))) (bVar 7) [7]) 6)
      (sRet (bFrz (bMk C_Net (FR_Net___init__ C_Net ans) (bCons (bVar 6) (bCons (bLc (bDic (bVar 5)) (gNm 10) (bTest (bOp (o2eq true) (bVar 10) (bTup (bCons (bVar 2) (bCons (bVar 2) bNil))))) (bVar 10) [10]) bNil)))))))))
theorem sc_Net_drawn_together : FnScope ["self", "link", "kept", "gone", "ends", "pairs", "nodes", "node", "one", "other", "pair"] ["self", "link"] (defScope s_Net_drawn_together) := ⟨rfl, rfl, rfl, by decide +kernel, rfl, by decide +kernel, by decide +kernel⟩
def F_Net_drawn_together (C_Net : Addr) (ans : Value → Value → Option Bool) : BF := defF 2 11 (B_Net_drawn_together C_Net ans)
theorem ok_Net_drawn_together (T : Tx K mg) : FnOk P w K mg base (L2.CX P w) 6 T.f_Net_drawn_together T.fd_Net_drawn_together ["self", "link"] (spF K 2 (F_Net_drawn_together T.C_Net T.ans)) :=
  fnD_ok T.F_Net_drawn_together sc_Net_drawn_together rfl rfl fun cdv A outer s H E hr C =>
    (ss_cons (s_asg (e_call (x := "want_link") (ok_want_link T) defF_len C.tk (hr.mono (by decide)) rfl T.g_want_link T.F_want_link.kp T.b_want_link Plain.nil (a_cons (e_V 0) (a_cons (e_V 1) a_nil))) (g_tup C.calm (gs_cons (g_N 2 C.nd) (gs_cons (g_N 3 C.nd) gs_nil))))
      (ss_cons (s_S 4 C.nd (e_dc (t := false) (un1 hr) C.calm C.nd (i_alt (i_seq (e_fld (cs := [T.C_Net]) (by simp only [List.mem_singleton, List.mem_cons, List.not_mem_nil, or_false, forall_eq_or_imp, forall_eq]; exact T.fd_Net_own_nodes) (e_V 0))) (i_signs (e_fld (cs := [T.C_Net]) (by simp only [List.mem_singleton, List.mem_cons, List.not_mem_nil, or_false, forall_eq_or_imp, forall_eq]; exact T.fd_Net_own_nodes) (e_V 0)))) (blkOk_by2 (N := ["self", "link", "kept", "gone", "ends", "pairs", "nodes", "node", "one", "other", "pair"]) (sc := defScope s_Net_drawn_together) (own := [("node", 7)]) rfl rfl (by decide +kernel)) (by decide) (fun _ _ _ _ _ => (g_N 7 C.nd)) (fun _ _ _ _ _ => c_yes) (fun _ _ _ _ _ => (e_V 7)) (fun _ _ _ _ _ => (e_if (t_pc (c_op r2_eq (op_eqD (un64 hr)) (e_V 7) (e_V 3)) rfl) (e_V 2) (e_V 7)))))
      (ss_cons (s_setDc (t := true) (un1 hr) C.calm C.nd rfl rfl rfl (i_seq (e_fld (cs := [T.C_Net]) (by simp only [List.mem_singleton, List.mem_cons, List.not_mem_nil, or_false, forall_eq_or_imp, forall_eq]; exact T.fd_Net_own_links) (e_V 0))) (blkOk_by2 (N := ["self", "link", "kept", "gone", "ends", "pairs", "nodes", "node", "one", "other", "pair"]) (sc := defScope s_Net_drawn_together) (own := [("one", 8), ("other", 9)]) rfl rfl (by decide +kernel)) (by decide) (fun _ _ _ _ _ => (g_tup C.calm (gs_cons (g_N 8 C.nd) (gs_cons (g_N 9 C.nd) gs_nil)))) (fun _ _ _ _ _ => c_yes) (fun _ _ _ _ _ => (e_call (x := "in_sequence") (ok_in_sequence T) defF_len takes0 (hr.mono (by decide)) rfl T.g_in_sequence T.F_in_sequence.kp T.b_in_sequence Plain.nil (a_cons (e_tup (a_cons (e_sub (un1 hr) (e_V 4) (e_V 8) (fun _ _ => rfl) (fun _ _ => rfl)) (a_cons (e_sub (un1 hr) (e_V 4) (e_V 9) (fun _ _ => rfl) (fun _ _ => rfl)) a_nil))) a_nil))) (fun _ _ _ _ _ => e_bl))
      (ss_cons (s_setLc C.calm C.nd rfl rfl rfl (i_alt (i_seq (e_fld (cs := [T.C_Net]) (by simp only [List.mem_singleton, List.mem_cons, List.not_mem_nil, or_false, forall_eq_or_imp, forall_eq]; exact T.fd_Net_own_nodes) (e_V 0))) (i_signs (e_fld (cs := [T.C_Net]) (by simp only [List.mem_singleton, List.mem_cons, List.not_mem_nil, or_false, forall_eq_or_imp, forall_eq]; exact T.fd_Net_own_nodes) (e_V 0)))) (blkOk_by2 (N := ["self", "link", "kept", "gone", "ends", "pairs", "nodes", "node", "one", "other", "pair"]) (sc := defScope s_Net_drawn_together) (own := [("node", 7)]) rfl rfl (by decide +kernel)) (by decide) (fun _ _ _ _ _ => (g_N 7 C.nd)) (fun _ _ _ _ _ => (c_one (t_pc (c_op r2_ne (op_neD (un64 hr)) (e_V 7) (e_V 3)) rfl))) (fun _ _ _ _ _ => (e_V 7)))
      (ss_one (s_ret (e_frz (e_mk T.mk_Net (fr_Net___init__ T) C.tk (hr.mono (by decide)) rfl T.gC_Net (a_cons (e_V 6) (a_cons (e_lc C.calm C.nd (i_dic (e_V 5)) (blkOk_by2 (N := ["self", "link", "kept", "gone", "ends", "pairs", "nodes", "node", "one", "other", "pair"]) (sc := defScope s_Net_drawn_together) (own := [("pair", 10)]) rfl rfl (by decide +kernel)) (by decide) (fun _ _ _ _ _ => (g_N 10 C.nd)) (fun _ _ _ _ _ => (c_one (t_pc (c_op r2_ne (op_neD (un64 hr)) (e_V 10) (e_tup (a_cons (e_V 2) (a_cons (e_V 2) a_nil)))) rfl))) (fun _ _ _ _ _ => (e_V 10))) a_nil))))))))))
def FR_Net_drawn_together (C_Net : Addr) (ans : Value → Value → Option Bool) : BF := fun ds => F_Net_drawn_together C_Net ans (ds ++ ([] : List PF.P).map .p)
theorem fr_Net_drawn_together (T : Tx K mg) : FnR P w K mg base (L2.CX P w) 6 T.f_Net_drawn_together (spR K (FR_Net_drawn_together T.C_Net T.ans)) := fn_raw (ok_Net_drawn_together T) defF_len T.b_Net_drawn_together Plain.nil
def B__law_size_right (C_Net : Addr) (ans : Value → Value → Option Bool) : BS := (sSeq (sTwo 3 4 (bSl (bVar 1) bNoPart (bPart (bVar 2))) (bCall (F__law_three C_Net ans) [] (bCons (bVar 1) (bCons (bVar 2) bNil))))
      (sSeq (sSet (bLc (bZip (bCons (bVar 3) (bCons (bSl (bVar 3) (bPart (bC (.int 1))) bNoPart) bNil))) (gTp 2 (gCs (gNm 8) (gCs (gNm 11) gNl))) bYes (bCall F__law_link [] (bCons (bVar 8) (bCons (bVar 11) bNil))) [8, 11]) 5)
      (sSeq (sIf (bNot (bTest (bCall (F__law_is C_Net ans) [] (bCons (bOp oSub (bVar 4) (bC (.int 0))) (bCons (bVar 3) (bCons (bVar 5) bNil))))))
      (sRet (bC (.bl false)))
      sSkip)
      (sSeq (sSet (bLstM bNil) 6)
      (sSeq (sFor (bEnum (bCons (bVar 3) bNil)) (gTp 2 (gCs (gNm 7) (gCs (gNm 8) gNl)))
      (sExpr (bBM gExtend (bVar 6) (bCons (bLc (bAlt (bSeq (bSl (bVar 3) bNoPart (bPart (bVar 7)))) (bSigns (bSl (bVar 3) bNoPart (bPart (bVar 7))))) (gNm 11) bYes (bCall F__law_link [] (bCons (bVar 8) (bCons (bVar 11) bNil))) [11]) bNil))))
      (sSeq (sIf (bNot (bTest (bCall (F__law_is C_Net ans) [] (bCons (bOp oSub (bVar 4) (bC (.int 2))) (bCons (bVar 3) (bCons (bFrz (bVar 6)) bNil))))))
      (sRet (bC (.bl false)))
      sSkip)
      (sSeq (sIf (bTest (bOp (oAlt (o2b (fun i j => decide (i < j))) (o2sb (fun i j => decide (i.cps.toList < j.cps.toList)))) (bVar 2) (bC (.int 3))))
      (sRet (bOp (oAlt (o2eq false) (oOwn C_Net (FR_Net___eq__ C_Net ans))) (bOp oSub (bVar 4) (bC (.int 0))) (bOp oSub (bCall (F__law_three C_Net ans) [] (bCons (bRev (bVar 3)) (bCons (bVar 2) bNil))) (bC (.int 0)))))
      sSkip)
      (sSeq (sIf (bNot (bTest (bCall (F__law_is C_Net ans) [] (bCons (bOp oSub (bVar 4) (bC (.int 1))) (bCons (bVar 3) (bCons (bOp oPlus (bVar 5) (bLst (bCons (bCall F__law_link [] (bCons (bOp oSub (bVar 3) (bC (.int 0))) (bCons (bOp oSub (bVar 3) (bNeg (bC (.int 1)))) bNil))) bNil))) bNil))))))
      (sRet (bC (.bl false)))
      sSkip)
      (sSeq (sSet (bCall F__law_draw [] (bCons (bVar 0) (bCons (bVar 2) bNil))) 9)
      (sSeq (sSet (bLst (bCons (bCall (F__law_three C_Net ans) [] (bCons (bOp oPlus (bSl (bVar 3) (bPart (bVar 9)) bNoPart) (bSl (bVar 3) bNoPart (bPart (bVar 9)))) (bCons (bVar 2) bNil))) (bCons (bCall (F__law_three C_Net ans) [] (bCons (bRev (bVar 3)) (bCons (bVar 2) bNil))) bNil))) 10)
      (sSeq (sIf (bOr (bTest (bOp (oAlt (o2eq true) (oOwnNe C_Net (FR_Net___eq__ C_Net ans))) (bOp oSub (bOp oSub (bVar 10) (bC (.int 0))) (bC (.int 1))) (bOp oSub (bVar 4) (bC (.int 1))))) (bOr (bTest (bOp (oAlt (o2eq true) (oOwnNe C_Net (FR_Net___eq__ C_Net ans))) (bOp oSub (bOp oSub (bVar 10) (bC (.int 1))) (bC (.int 1))) (bOp oSub (bVar 4) (bC (.int 1))))) (bTest (bOp (oAlt (o2eq true) (oOwnNe C_Net (FR_Net___eq__ C_Net ans))) (bOp oSub (bOp oSub (bVar 10) (bC (.int 1))) (bC (.int 0))) (bOp oSub (bVar 4) (bC (.int 0)))))))
      (sRet (bC (.bl false)))
      sSkip)
      (sSeq (sIf (bOr (bTest (bOp (oAlt (o2eq true) (oOwnNe C_Net (FR_Net___eq__ C_Net ans))) (bOp oSub (bOp oSub (bVar 10) (bC (.int 0))) (bC (.int 2))) (bOp oSub (bVar 4) (bC (.int 2))))) (bOr (bTest (bOp (oAlt (o2eq true) (oOwnNe C_Net (FR_Net___eq__ C_Net ans))) (bOp (oAlt (o2i (fun _ _ => True) fun i j => i - j) (oOwnT C_Net (FR_Net___sub__ C_Net ans))) (bOp oSub (bVar 4) (bC (.int 1))) (bTup (bCons (bOp oSub (bVar 3) (bC (.int 0))) (bCons (bOp oSub (bVar 3) (bNeg (bC (.int 1)))) bNil)))) (bOp oSub (bVar 4) (bC (.int 0))))) (bNot (bTest (bMeth C_Net "is_part_of" (F_Net_is_part_of C_Net ans) [] (bOp oSub (bVar 4) (bC (.int 0))) (bCons (bOp oSub (bVar 4) (bC (.int 1))) bNil))))))
      (sRet (bC (.bl false)))
      sSkip)
      (sSeq (sIf (bTest (bOp (o2b (fun i j => decide (j < i))) (bVar 2) (bC (.int 3))))
      (sSeq (sAsg (bTup (bCons (bOp oSub (bVar 3) (bC (.int 1))) (bCons (bOp oSub (bVar 3) (bC (.int 2))) bNil))) (gTp 2 (gCs (gNm 8) (gCs (gNm 11) gNl))))
      (sSeq (sSet (bLc (bAlt (bSeq (bVar 3)) (bSigns (bVar 3))) (gNm 13) (bTest (bOp (o2eq true) (bVar 13) (bVar 11))) (bIf (bTest (bOp (o2eq false) (bVar 13) (bVar 8))) (bCB oMin2 (bCons (bVar 8) (bCons (bVar 11) bNil))) (bVar 13)) [13]) 12)
      (sRet (bOp (oAlt (o2eq false) (oOwn C_Net (FR_Net___eq__ C_Net ans))) (bMeth C_Net "drawn_together" (F_Net_drawn_together C_Net ans) [] (bOp oSub (bVar 4) (bC (.int 1))) (bCons (bTup (bCons (bVar 8) (bCons (bVar 11) bNil))) bNil)) (bOp oSub (bCall (F__law_three C_Net ans) [] (bCons (bVar 12) (bCons (bOp (oAlt (o2i (fun _ _ => True) fun i j => i - j) (oOwnT C_Net (FR_Net___sub__ C_Net ans))) (bVar 2) (bC (.int 1))) bNil))) (bC (.int 1)))))))
      sSkip)
      (sRet (bOp (oAlt (o2eq false) (oOwn C_Net (FR_Net___eq__ C_Net ans))) (bOp oSub (bVar 4) (bC (.int 1))) (bOp oSub (bVar 4) (bC (.int 2))))))))))))))))))
theorem sc__law_size_right : FnScope ["_law_pot_here", "_law_some", "_law_size", "_law_spots", "_law_told", "_law_pairs", "_law_every", "_law_k", "_law_this", "_law_at", "_law_turned", "_law_mate", "_law_left", "_law_spot"] ["_law_pot_here", "_law_some", "_law_size"] (defScope s__law_size_right) := ⟨rfl, rfl, rfl, by decide +kernel, rfl, by decide +kernel, by decide +kernel⟩
def F__law_size_right (C_Net : Addr) (ans : Value → Value → Option Bool) : BF := defF 3 14 (B__law_size_right C_Net ans)
theorem ok__law_size_right (T : Tx K mg) : FnOk P w K mg base (L2.CX P w) 8 T.f__law_size_right T.fd__law_size_right ["_law_pot_here", "_law_some", "_law_size"] (spF K 3 (F__law_size_right T.C_Net T.ans)) :=
  fnD_ok T.F__law_size_right sc__law_size_right rfl rfl fun cdv A outer s H E hr C =>
    (ss_cons (s_two C.nd 3 4 C.calm (e_sl (e_V 1) o_none (o_some (e_V 2))) (e_call (x := "_law_three") (ok__law_three T) defF_len C.tk (hr.mono (by decide)) rfl T.g__law_three T.F__law_three.kp T.b__law_three Plain.nil (a_cons (e_V 1) (a_cons (e_V 2) a_nil))))
      (ss_cons (s_setLc C.calm C.nd rfl rfl rfl (i_zip rfl T.z_zip (a_cons (e_V 3) (a_cons (e_sl (e_V 3) (o_some e_int) o_none) a_nil))) (blkOk_by2 (N := ["_law_pot_here", "_law_some", "_law_size", "_law_spots", "_law_told", "_law_pairs", "_law_every", "_law_k", "_law_this", "_law_at", "_law_turned", "_law_mate", "_law_left", "_law_spot"]) (sc := defScope s__law_size_right) (own := [("_law_this", 8), ("_law_mate", 11)]) rfl rfl (by decide +kernel)) (by decide) (fun _ _ _ _ _ => (g_tup C.calm (gs_cons (g_N 8 C.nd) (gs_cons (g_N 11 C.nd) gs_nil)))) (fun _ _ _ _ _ => c_yes) (fun _ _ _ _ _ => (e_call (x := "_law_link") (ok__law_link T) defF_len takes0 (hr.mono (by decide)) rfl T.g__law_link T.F__law_link.kp T.b__law_link Plain.nil (a_cons (e_V 8) (a_cons (e_V 11) a_nil)))))
      (ss_cons (s_if (t_not (t_val (e_call (x := "_law_is") (ok__law_is T) defF_len C.tk (hr.mono (by decide)) rfl T.g__law_is T.F__law_is.kp T.b__law_is Plain.nil (a_cons (e_sub (un1 hr) (e_V 4) e_int (fun _ _ => rfl) (fun _ _ => rfl)) (a_cons (e_V 3) (a_cons (e_V 5) a_nil))))))
      (ss_one (s_ret e_bl))
      ss_nil)
      (ss_cons (s_S 6 C.nd (e_lstM a_nil))
      (ss_cons (s_for C (i_enum rfl T.z_enumerate (a_cons (e_V 3) a_nil)) (g_tup C.calm (gs_cons (g_N 7 C.nd) (gs_cons (g_N 8 C.nd) gs_nil)))
      (ss_one (s_expr (e_extend (e_V 6) (a_cons (e_lc C.calm C.nd (i_alt (i_seq (e_sl (e_V 3) o_none (o_some (e_V 7)))) (i_signs (e_sl (e_V 3) o_none (o_some (e_V 7))))) (blkOk_by2 (N := ["_law_pot_here", "_law_some", "_law_size", "_law_spots", "_law_told", "_law_pairs", "_law_every", "_law_k", "_law_this", "_law_at", "_law_turned", "_law_mate", "_law_left", "_law_spot"]) (sc := defScope s__law_size_right) (own := [("_law_mate", 11)]) rfl rfl (by decide +kernel)) (by decide) (fun _ _ _ _ _ => (g_N 11 C.nd)) (fun _ _ _ _ _ => c_yes) (fun _ _ _ _ _ => (e_call (x := "_law_link") (ok__law_link T) defF_len takes0 (hr.mono (by decide)) rfl T.g__law_link T.F__law_link.kp T.b__law_link Plain.nil (a_cons (e_V 8) (a_cons (e_V 11) a_nil))))) a_nil)))))
      (ss_cons (s_if (t_not (t_val (e_call (x := "_law_is") (ok__law_is T) defF_len C.tk (hr.mono (by decide)) rfl T.g__law_is T.F__law_is.kp T.b__law_is Plain.nil (a_cons (e_sub (un1 hr) (e_V 4) e_int (fun _ _ => rfl) (fun _ _ => rfl)) (a_cons (e_V 3) (a_cons (e_frz (e_V 6)) a_nil))))))
      (ss_one (s_ret e_bl))
      ss_nil)
      (ss_cons (s_if (t_pc (c_alt (c_op r2_b op_lt (e_V 2) e_int) (c_op r2_sb op_lt_str (e_V 2) e_int)) rfl)
      (ss_one (s_ret (e_pc (c_alt (c_op r2_eq (op_eqD (un64 hr)) (e_sub (un1 hr) (e_V 4) e_int (fun _ _ => rfl) (fun _ _ => rfl)) (e_sub (un1 hr) (e_call (x := "_law_three") (ok__law_three T) defF_len C.tk (hr.mono (by decide)) rfl T.g__law_three T.F__law_three.kp T.b__law_three Plain.nil (a_cons (e_rev (e_V 3)) (a_cons (e_V 2) a_nil))) e_int (fun _ _ => rfl) (fun _ _ => rfl))) (c_own (fun _ _ => rfl) T.dn_Net___eq__ (fr_Net___eq__ T) C.tk (hr.mono (by decide)) (un0 hr) (e_sub (un1 hr) (e_V 4) e_int (fun _ _ => rfl) (fun _ _ => rfl)) (e_sub (un1 hr) (e_call (x := "_law_three") (ok__law_three T) defF_len C.tk (hr.mono (by decide)) rfl T.g__law_three T.F__law_three.kp T.b__law_three Plain.nil (a_cons (e_rev (e_V 3)) (a_cons (e_V 2) a_nil))) e_int (fun _ _ => rfl) (fun _ _ => rfl)))) rfl)))
      ss_nil)
      (ss_cons (s_if (t_not (t_val (e_call (x := "_law_is") (ok__law_is T) defF_len C.tk (hr.mono (by decide)) rfl T.g__law_is T.F__law_is.kp T.b__law_is Plain.nil (a_cons (e_sub (un1 hr) (e_V 4) e_int (fun _ _ => rfl) (fun _ _ => rfl)) (a_cons (e_V 3) (a_cons (e_plus (e_V 5) (e_lst (a_cons (e_call (x := "_law_link") (ok__law_link T) defF_len C.tk (hr.mono (by decide)) rfl T.g__law_link T.F__law_link.kp T.b__law_link Plain.nil (a_cons (e_sub (un1 hr) (e_V 3) e_int (fun _ _ => rfl) (fun _ _ => rfl)) (a_cons (e_sub (un1 hr) (e_V 3) (e_neg e_int) (fun _ _ => rfl) (fun _ _ => rfl)) a_nil))) a_nil))) a_nil))))))
      (ss_one (s_ret e_bl))
      ss_nil)
      (ss_cons (s_S 9 C.nd (e_call (x := "_law_draw") (ok__law_draw T) defF_len C.tk (hr.mono (by decide)) rfl T.g__law_draw T.F__law_draw.kp T.b__law_draw Plain.nil (a_cons (e_V 0) (a_cons (e_V 2) a_nil))))
      (ss_cons (s_S 10 C.nd (e_lst (a_cons (e_call (x := "_law_three") (ok__law_three T) defF_len C.tk (hr.mono (by decide)) rfl T.g__law_three T.F__law_three.kp T.b__law_three Plain.nil (a_cons (e_plus (e_sl (e_V 3) (o_some (e_V 9)) o_none) (e_sl (e_V 3) o_none (o_some (e_V 9)))) (a_cons (e_V 2) a_nil))) (a_cons (e_call (x := "_law_three") (ok__law_three T) defF_len C.tk (hr.mono (by decide)) rfl T.g__law_three T.F__law_three.kp T.b__law_three Plain.nil (a_cons (e_rev (e_V 3)) (a_cons (e_V 2) a_nil))) a_nil))))
      (ss_cons (s_if (t_w (t_or (t_pc (c_alt (c_op r2_ne (op_neD (un64 hr)) (e_sub (un1 hr) (e_sub (un1 hr) (e_V 10) e_int (fun _ _ => rfl) (fun _ _ => rfl)) e_int (fun _ _ => rfl) (fun _ _ => rfl)) (e_sub (un1 hr) (e_V 4) e_int (fun _ _ => rfl) (fun _ _ => rfl))) (c_ownNe T.dn_Net___eq__ T.ne_Net T.mo_Net (fr_Net___eq__ T) C.tk (hr.mono (by decide)) (un1 hr) (e_sub (un1 hr) (e_sub (un1 hr) (e_V 10) e_int (fun _ _ => rfl) (fun _ _ => rfl)) e_int (fun _ _ => rfl) (fun _ _ => rfl)) (e_sub (un1 hr) (e_V 4) e_int (fun _ _ => rfl) (fun _ _ => rfl)))) rfl) (t_or (t_pc (c_alt (c_op r2_ne (op_neD (un64 hr)) (e_sub (un1 hr) (e_sub (un1 hr) (e_V 10) e_int (fun _ _ => rfl) (fun _ _ => rfl)) e_int (fun _ _ => rfl) (fun _ _ => rfl)) (e_sub (un1 hr) (e_V 4) e_int (fun _ _ => rfl) (fun _ _ => rfl))) (c_ownNe T.dn_Net___eq__ T.ne_Net T.mo_Net (fr_Net___eq__ T) C.tk (hr.mono (by decide)) (un1 hr) (e_sub (un1 hr) (e_sub (un1 hr) (e_V 10) e_int (fun _ _ => rfl) (fun _ _ => rfl)) e_int (fun _ _ => rfl) (fun _ _ => rfl)) (e_sub (un1 hr) (e_V 4) e_int (fun _ _ => rfl) (fun _ _ => rfl)))) rfl) (t_or1 (t_pc (c_alt (c_op r2_ne (op_neD (un64 hr)) (e_sub (un1 hr) (e_sub (un1 hr) (e_V 10) e_int (fun _ _ => rfl) (fun _ _ => rfl)) e_int (fun _ _ => rfl) (fun _ _ => rfl)) (e_sub (un1 hr) (e_V 4) e_int (fun _ _ => rfl) (fun _ _ => rfl))) (c_ownNe T.dn_Net___eq__ T.ne_Net T.mo_Net (fr_Net___eq__ T) C.tk (hr.mono (by decide)) (un1 hr) (e_sub (un1 hr) (e_sub (un1 hr) (e_V 10) e_int (fun _ _ => rfl) (fun _ _ => rfl)) e_int (fun _ _ => rfl) (fun _ _ => rfl)) (e_sub (un1 hr) (e_V 4) e_int (fun _ _ => rfl) (fun _ _ => rfl)))) rfl)))))
      (ss_one (s_ret e_bl))
      ss_nil)
      (ss_cons (s_if (t_w (t_or (t_pc (c_alt (c_op r2_ne (op_neD (un64 hr)) (e_sub (un1 hr) (e_sub (un1 hr) (e_V 10) e_int (fun _ _ => rfl) (fun _ _ => rfl)) e_int (fun _ _ => rfl) (fun _ _ => rfl)) (e_sub (un1 hr) (e_V 4) e_int (fun _ _ => rfl) (fun _ _ => rfl))) (c_ownNe T.dn_Net___eq__ T.ne_Net T.mo_Net (fr_Net___eq__ T) C.tk (hr.mono (by decide)) (un1 hr) (e_sub (un1 hr) (e_sub (un1 hr) (e_V 10) e_int (fun _ _ => rfl) (fun _ _ => rfl)) e_int (fun _ _ => rfl) (fun _ _ => rfl)) (e_sub (un1 hr) (e_V 4) e_int (fun _ _ => rfl) (fun _ _ => rfl)))) rfl) (t_or (t_pc (c_alt (c_op r2_ne (op_neD (un64 hr)) (e_altO (e_op r2_i0 op_sub (e_sub (un1 hr) (e_V 4) e_int (fun _ _ => rfl) (fun _ _ => rfl)) (e_tup (a_cons (e_sub (un1 hr) (e_V 3) e_int (fun _ _ => rfl) (fun _ _ => rfl)) (a_cons (e_sub (un1 hr) (e_V 3) (e_neg e_int) (fun _ _ => rfl) (fun _ _ => rfl)) a_nil)))) (e_ownT T.dt_Net___sub__ (fr_Net___sub__ T) C.tk (hr.mono (by decide)) (e_sub (un1 hr) (e_V 4) e_int (fun _ _ => rfl) (fun _ _ => rfl)) (e_tup (a_cons (e_sub (un1 hr) (e_V 3) e_int (fun _ _ => rfl) (fun _ _ => rfl)) (a_cons (e_sub (un1 hr) (e_V 3) (e_neg e_int) (fun _ _ => rfl) (fun _ _ => rfl)) a_nil))))) (e_sub (un1 hr) (e_V 4) e_int (fun _ _ => rfl) (fun _ _ => rfl))) (c_ownNe T.dn_Net___eq__ T.ne_Net T.mo_Net (fr_Net___eq__ T) C.tk (hr.mono (by decide)) (un1 hr) (e_altO (e_op r2_i0 op_sub (e_sub (un1 hr) (e_V 4) e_int (fun _ _ => rfl) (fun _ _ => rfl)) (e_tup (a_cons (e_sub (un1 hr) (e_V 3) e_int (fun _ _ => rfl) (fun _ _ => rfl)) (a_cons (e_sub (un1 hr) (e_V 3) (e_neg e_int) (fun _ _ => rfl) (fun _ _ => rfl)) a_nil)))) (e_ownT T.dt_Net___sub__ (fr_Net___sub__ T) C.tk (hr.mono (by decide)) (e_sub (un1 hr) (e_V 4) e_int (fun _ _ => rfl) (fun _ _ => rfl)) (e_tup (a_cons (e_sub (un1 hr) (e_V 3) e_int (fun _ _ => rfl) (fun _ _ => rfl)) (a_cons (e_sub (un1 hr) (e_V 3) (e_neg e_int) (fun _ _ => rfl) (fun _ _ => rfl)) a_nil))))) (e_sub (un1 hr) (e_V 4) e_int (fun _ _ => rfl) (fun _ _ => rfl)))) rfl) (t_or1 (t_not (t_val (e_meth (e_sub (un1 hr) (e_V 4) e_int (fun _ _ => rfl) (fun _ _ => rfl)) T.c_Net T.m_Net_is_part_of (ok_Net_is_part_of T) defF_len C.tk (hr.mono (by decide)) T.b_Net_is_part_of Plain.nil (a_cons (e_sub (un1 hr) (e_V 4) e_int (fun _ _ => rfl) (fun _ _ => rfl)) a_nil))))))))
      (ss_one (s_ret e_bl))
      ss_nil)
      (ss_cons (s_if (t_pc (c_op r2_b op_gt (e_V 2) e_int) rfl)
      (ss_cons (s_asg (e_tup (a_cons (e_sub (un1 hr) (e_V 3) e_int (fun _ _ => rfl) (fun _ _ => rfl)) (a_cons (e_sub (un1 hr) (e_V 3) e_int (fun _ _ => rfl) (fun _ _ => rfl)) a_nil))) (g_tup C.calm (gs_cons (g_N 8 C.nd) (gs_cons (g_N 11 C.nd) gs_nil))))
      (ss_cons (s_setLc C.calm C.nd rfl rfl rfl (i_alt (i_seq (e_V 3)) (i_signs (e_V 3))) (blkOk_by2 (N := ["_law_pot_here", "_law_some", "_law_size", "_law_spots", "_law_told", "_law_pairs", "_law_every", "_law_k", "_law_this", "_law_at", "_law_turned", "_law_mate", "_law_left", "_law_spot"]) (sc := defScope s__law_size_right) (own := [("_law_spot", 13)]) rfl rfl (by decide +kernel)) (by decide) (fun _ _ _ _ _ => (g_N 13 C.nd)) (fun _ _ _ _ _ => (c_one (t_pc (c_op r2_ne (op_neD (un64 hr)) (e_V 13) (e_V 11)) rfl))) (fun _ _ _ _ _ => (e_if (t_pc (c_op r2_eq (op_eqD (un64 hr)) (e_V 13) (e_V 8)) rfl) (e_callB (x := "min") (call_min2X C.calm) l_min2 rfl T.z_min boot_min (a_cons (e_V 8) (a_cons (e_V 11) a_nil))) (e_V 13))))
      (ss_one (s_ret (e_pc (c_alt (c_op r2_eq (op_eqD (un64 hr)) (e_meth (e_sub (un1 hr) (e_V 4) e_int (fun _ _ => rfl) (fun _ _ => rfl)) T.c_Net T.m_Net_drawn_together (ok_Net_drawn_together T) defF_len C.tk (hr.mono (by decide)) T.b_Net_drawn_together Plain.nil (a_cons (e_tup (a_cons (e_V 8) (a_cons (e_V 11) a_nil))) a_nil)) (e_sub (un1 hr) (e_call (x := "_law_three") (ok__law_three T) defF_len C.tk (hr.mono (by decide)) rfl T.g__law_three T.F__law_three.kp T.b__law_three Plain.nil (a_cons (e_V 12) (a_cons (e_altO (e_op r2_i0 op_sub (e_V 2) e_int) (e_ownT T.dt_Net___sub__ (fr_Net___sub__ T) C.tk (hr.mono (by decide)) (e_V 2) e_int)) a_nil))) e_int (fun _ _ => rfl) (fun _ _ => rfl))) (c_own (fun _ _ => rfl) T.dn_Net___eq__ (fr_Net___eq__ T) C.tk (hr.mono (by decide)) (un0 hr) (e_meth (e_sub (un1 hr) (e_V 4) e_int (fun _ _ => rfl) (fun _ _ => rfl)) T.c_Net T.m_Net_drawn_together (ok_Net_drawn_together T) defF_len C.tk (hr.mono (by decide)) T.b_Net_drawn_together Plain.nil (a_cons (e_tup (a_cons (e_V 8) (a_cons (e_V 11) a_nil))) a_nil)) (e_sub (un1 hr) (e_call (x := "_law_three") (ok__law_three T) defF_len C.tk (hr.mono (by decide)) rfl T.g__law_three T.F__law_three.kp T.b__law_three Plain.nil (a_cons (e_V 12) (a_cons (e_altO (e_op r2_i0 op_sub (e_V 2) e_int) (e_ownT T.dt_Net___sub__ (fr_Net___sub__ T) C.tk (hr.mono (by decide)) (e_V 2) e_int)) a_nil))) e_int (fun _ _ => rfl) (fun _ _ => rfl)))) rfl)))))
      ss_nil)
      (ss_one (s_ret (e_pc (c_alt (c_op r2_eq (op_eqD (un64 hr)) (e_sub (un1 hr) (e_V 4) e_int (fun _ _ => rfl) (fun _ _ => rfl)) (e_sub (un1 hr) (e_V 4) e_int (fun _ _ => rfl) (fun _ _ => rfl))) (c_own (fun _ _ => rfl) T.dn_Net___eq__ (fr_Net___eq__ T) C.tk (hr.mono (by decide)) (un0 hr) (e_sub (un1 hr) (e_V 4) e_int (fun _ _ => rfl) (fun _ _ => rfl)) (e_sub (un1 hr) (e_V 4) e_int (fun _ _ => rfl) (fun _ _ => rfl)))) rfl))))))))))))))))
def FR__law_size_right (C_Net : Addr) (ans : Value → Value → Option Bool) : BF := fun ds => F__law_size_right C_Net ans (ds ++ ([] : List PF.P).map .p)
def B_Net_of (C_Net : Addr) (ans : Value → Value → Option Bool) : BS := (sSeq (sIf (bTest (bOp (o2eq false) (bCB oLen (bCons (bVar 0) bNil)) (bC (.int 0))))
      sNever
      sSkip)
      (sSeq (sSet (bCall (F_pairs_of ans) [.non] (bCons (bVar 0) bNil)) 1)
      (sRet (bFrz (bMk C_Net (FR_Net___init__ C_Net ans) (bCons (bCB oSortSet (bCons (bLc2 (bAlt (bSeq (bVar 1)) (bSigns (bVar 1))) (gNm 2) bYes (bAlt (bSeq (bVar 2)) (bSigns (bVar 2))) (gNm 3) bYes (bVar 3) [2, 3] [3]) bNil)) (bCons (bVar 1) bNil)))))))
theorem sc_Net_of : FnScope ["links", "pairs", "pair", "node"] ["links"] (defScope s_Net_of) := ⟨rfl, rfl, rfl, by decide +kernel, rfl, by decide +kernel, by decide +kernel⟩
def F_Net_of (C_Net : Addr) (ans : Value → Value → Option Bool) : BF := defF 1 4 (B_Net_of C_Net ans)
def FR_Net_of (C_Net : Addr) (ans : Value → Value → Option Bool) : BF := starF 0 (F_Net_of C_Net ans)
theorem fr_Net_of (T : Tx K mg) : FnR P w K mg base (L2.CX P w) 6 T.f_Net_of (spR K (FR_Net_of T.C_Net T.ans)) :=
  fnS_ok (N := ["links", "pairs", "pair", "node"]) (ps := []) (pv := "links") T.F_Net_of sc_Net_of (fun _ _ _ _ _ _ us rest h => match us, rest, h with | [], [], _ => rfl | [], _ :: _, _ => rfl) rfl rfl fun cdv A outer s H E hr C =>
    (ss_cons (s_if (t_pc (c_op r2_eq (op_eqD (un64 hr)) (e_callB (x := "len") call_lenA l_len rfl T.z_len boot_len (a_cons (e_V 0) a_nil)) e_int) rfl)
      (ss_one s_never)
      ss_nil)
      (ss_cons (s_S 1 C.nd (e_call (x := "pairs_of") (ok_pairs_of T) defF_len C.tk (hr.mono (by decide)) rfl T.g_pairs_of T.F_pairs_of.kp T.bd1_pairs_of T.pd1_pairs_of (a_cons (e_V 0) a_nil)))
      (ss_one (s_ret (e_frz (e_mk T.mk_Net (fr_Net___init__ T) C.tk (hr.mono (by decide)) rfl T.gC_Net (a_cons (e_sortSet C.calm (un65 hr) rfl T.z_sorted boot_sorted rfl T.z_set boot_set (a_cons (e_lc2 C.calm C.nd (i_alt (i_seq (e_V 1)) (i_signs (e_V 1))) (blkOk_by2 (N := ["links", "pairs", "pair", "node"]) (sc := defScope s_Net_of) (own := [("pair", 2), ("node", 3)]) rfl rfl (by decide +kernel)) (vs1 := [3]) (by decide) (by decide) (by decide) (fun _ _ _ _ _ => (g_N 2 C.nd)) (fun _ _ _ _ _ => c_yes) (fun _ _ _ _ _ => (i_alt (i_seq (e_V 2)) (i_signs (e_V 2)))) (fun _ _ _ _ _ => (g_N 3 C.nd)) (fun _ _ _ _ _ => c_yes) (fun _ _ _ _ _ => (e_V 3))) a_nil)) (a_cons (e_V 1) a_nil))))))))
def B__law_of_right (C_Net : Addr) (ans : Value → Value → Option Bool) : BS := (sSeq (sSet (bLstM bNil) 2)
      (sSeq (sFor (bRange2 (bCons (bC (.int 1)) (bCons (bC (.int 7)) bNil))) (gNm 3)
      (sSeq (sSet (bOp oSub (bVar 1) (bCall F__law_draw [] (bCons (bVar 0) (bCons (bVar 3) bNil)))) 4)
      (sExpr (bBM gAppend (bVar 2) (bCons (bIf (bTest (bOp (o2eq false) (bCall F__law_draw [] (bCons (bVar 0) (bCons (bC (.int 2)) bNil))) (bC (.int 0)))) (bTup (bCons (bOp oSub (bVar 1) (bVar 3)) (bCons (bVar 4) bNil))) (bTup (bCons (bVar 4) (bCons (bOp oSub (bVar 1) (bVar 3)) bNil)))) bNil)))))
      (sSeq (sSet (bCall F__law_draw [] (bCons (bVar 0) (bCons (bC (.int 3)) bNil))) 5)
      (sSeq (sIf (bTest (bOp (o2eq false) (bVar 5) (bC (.int 0))))
      (sSeq (sSet (bSM C_Net (FR_Net_of C_Net ans) (bC (.rf C_Net)) (bCons (bOp oSub (bVar 2) (bC (.int 5))) (bCons (bOp oSub (bVar 2) (bC (.int 2))) (bCons (bOp oSub (bVar 2) (bC (.int 0))) bNil)))) 6)
      (sSet (bLst (bCons (bOp oSub (bVar 2) (bC (.int 5))) (bCons (bOp oSub (bVar 2) (bC (.int 2))) (bCons (bOp oSub (bVar 2) (bC (.int 0))) bNil)))) 7))
      (sIf (bTest (bOp (o2eq false) (bVar 5) (bC (.int 1))))
      (sSeq (sSet (bSM C_Net (FR_Net_of C_Net ans) (bC (.rf C_Net)) (bCons (bOp oSub (bVar 2) (bC (.int 1))) (bCons (bOp oSub (bVar 2) (bC (.int 0))) (bCons (bOp oSub (bVar 2) (bC (.int 3))) (bCons (bOp oSub (bVar 2) (bC (.int 4))) bNil))))) 6)
      (sSet (bOp oPlus (bSl (bVar 2) bNoPart (bPart (bC (.int 2)))) (bSl (bVar 2) (bPart (bC (.int 3))) (bPart (bC (.int 5))))) 7))
      (sSeq (sSet (bSM C_Net (FR_Net_of C_Net ans) (bC (.rf C_Net)) (bCons (bOp oSub (bVar 2) (bC (.int 0))) (bCons (bOp oSub (bVar 2) (bC (.int 1))) (bCons (bOp oSub (bVar 2) (bC (.int 2))) (bCons (bOp oSub (bVar 2) (bC (.int 3))) (bCons (bOp oSub (bVar 2) (bC (.int 4))) (bCons (bOp oSub (bVar 2) (bC (.int 5))) bNil))))))) 6)
      (sSet (bFrz (bVar 2)) 7))))
      (sSeq (sSet (bCB oSortSet (bCons (bOp oPlus (bLc (bAlt (bSeq (bVar 7)) (bSigns (bVar 7))) (gNm 10) bYes (bOp oSub (bVar 10) (bC (.int 0))) [10]) (bLc (bAlt (bSeq (bVar 7)) (bSigns (bVar 7))) (gNm 10) bYes (bOp oSub (bVar 10) (bC (.int 1))) [10])) bNil)) 8)
      (sRet (bCall (F__law_is C_Net ans) [] (bCons (bVar 6) (bCons (bVar 8) (bCons (bLc (bSeq (bVar 7)) (gTp 2 (gCs (gNm 9) (gCs (gNm 4) gNl))) bYes (bCall F__law_link [] (bCons (bVar 9) (bCons (bVar 4) bNil))) [9, 4]) bNil))))))))))
theorem sc__law_of_right : FnScope ["_law_pot_here", "_law_some", "_law_pairs", "_law_k", "_law_mate", "_law_way", "_law_made", "_law_used", "_law_spots", "_law_this", "_law_pair"] ["_law_pot_here", "_law_some"] (defScope s__law_of_right) := ⟨rfl, rfl, rfl, by decide +kernel, rfl, by decide +kernel, by decide +kernel⟩
def F__law_of_right (C_Net : Addr) (ans : Value → Value → Option Bool) : BF := defF 2 11 (B__law_of_right C_Net ans)
theorem ok__law_of_right (T : Tx K mg) : FnOk P w K mg base (L2.CX P w) 7 T.f__law_of_right T.fd__law_of_right ["_law_pot_here", "_law_some"] (spF K 2 (F__law_of_right T.C_Net T.ans)) :=
  fnD_ok T.F__law_of_right sc__law_of_right rfl rfl fun cdv A outer s H E hr C =>
    (ss_cons (s_S 2 C.nd (e_lstM a_nil))
      (ss_cons (s_for C (i_range2 rfl T.z_range (a_cons e_int (a_cons e_int a_nil))) (g_N 3 C.nd)
      (ss_cons (s_S 4 C.nd (e_sub (un1 hr) (e_V 1) (e_call (x := "_law_draw") (ok__law_draw T) defF_len C.tk (hr.mono (by decide)) rfl T.g__law_draw T.F__law_draw.kp T.b__law_draw Plain.nil (a_cons (e_V 0) (a_cons (e_V 3) a_nil))) (fun _ _ => rfl) (fun _ _ => rfl)))
      (ss_one (s_expr (e_append (e_V 2) (a_cons (e_if (t_pc (c_op r2_eq (op_eqD (un64 hr)) (e_call (x := "_law_draw") (ok__law_draw T) defF_len C.tk (hr.mono (by decide)) rfl T.g__law_draw T.F__law_draw.kp T.b__law_draw Plain.nil (a_cons (e_V 0) (a_cons e_int a_nil))) e_int) rfl) (e_tup (a_cons (e_sub (un1 hr) (e_V 1) (e_V 3) (fun _ _ => rfl) (fun _ _ => rfl)) (a_cons (e_V 4) a_nil))) (e_tup (a_cons (e_V 4) (a_cons (e_sub (un1 hr) (e_V 1) (e_V 3) (fun _ _ => rfl) (fun _ _ => rfl)) a_nil)))) a_nil))))))
      (ss_cons (s_S 5 C.nd (e_call (x := "_law_draw") (ok__law_draw T) defF_len C.tk (hr.mono (by decide)) rfl T.g__law_draw T.F__law_draw.kp T.b__law_draw Plain.nil (a_cons (e_V 0) (a_cons e_int a_nil))))
      (ss_cons (s_if (t_pc (c_op r2_eq (op_eqD (un64 hr)) (e_V 5) e_int) rfl)
      (ss_cons (s_S 6 C.nd (e_sm (e_rf rfl T.gC_Net) T.rd_Net T.sm_Net_of (fr_Net_of T) C.tk (hr.mono (by decide)) (a_cons (e_sub (un1 hr) (e_V 2) e_int (fun _ _ => rfl) (fun _ _ => rfl)) (a_cons (e_sub (un1 hr) (e_V 2) e_int (fun _ _ => rfl) (fun _ _ => rfl)) (a_cons (e_sub (un1 hr) (e_V 2) e_int (fun _ _ => rfl) (fun _ _ => rfl)) a_nil)))))
      (ss_one (s_S 7 C.nd (e_lst (a_cons (e_sub (un1 hr) (e_V 2) e_int (fun _ _ => rfl) (fun _ _ => rfl)) (a_cons (e_sub (un1 hr) (e_V 2) e_int (fun _ _ => rfl) (fun _ _ => rfl)) (a_cons (e_sub (un1 hr) (e_V 2) e_int (fun _ _ => rfl) (fun _ _ => rfl)) a_nil)))))))
      (ss_one (s_if (t_pc (c_op r2_eq (op_eqD (un64 hr)) (e_V 5) e_int) rfl)
      (ss_cons (s_S 6 C.nd (e_sm (e_rf rfl T.gC_Net) T.rd_Net T.sm_Net_of (fr_Net_of T) C.tk (hr.mono (by decide)) (a_cons (e_sub (un1 hr) (e_V 2) e_int (fun _ _ => rfl) (fun _ _ => rfl)) (a_cons (e_sub (un1 hr) (e_V 2) e_int (fun _ _ => rfl) (fun _ _ => rfl)) (a_cons (e_sub (un1 hr) (e_V 2) e_int (fun _ _ => rfl) (fun _ _ => rfl)) (a_cons (e_sub (un1 hr) (e_V 2) e_int (fun _ _ => rfl) (fun _ _ => rfl)) a_nil))))))
      (ss_one (s_S 7 C.nd (e_plus (e_sl (e_V 2) o_none (o_some e_int)) (e_sl (e_V 2) (o_some e_int) (o_some e_int))))))
      (ss_cons (s_S 6 C.nd (e_sm (e_rf rfl T.gC_Net) T.rd_Net T.sm_Net_of (fr_Net_of T) C.tk (hr.mono (by decide)) (a_cons (e_sub (un1 hr) (e_V 2) e_int (fun _ _ => rfl) (fun _ _ => rfl)) (a_cons (e_sub (un1 hr) (e_V 2) e_int (fun _ _ => rfl) (fun _ _ => rfl)) (a_cons (e_sub (un1 hr) (e_V 2) e_int (fun _ _ => rfl) (fun _ _ => rfl)) (a_cons (e_sub (un1 hr) (e_V 2) e_int (fun _ _ => rfl) (fun _ _ => rfl)) (a_cons (e_sub (un1 hr) (e_V 2) e_int (fun _ _ => rfl) (fun _ _ => rfl)) (a_cons (e_sub (un1 hr) (e_V 2) e_int (fun _ _ => rfl) (fun _ _ => rfl)) a_nil))))))))
      (ss_one (s_S 7 C.nd (e_frz (e_V 2))))))))
      (ss_cons (s_S 8 C.nd (e_sortSet C.calm (un65 hr) rfl T.z_sorted boot_sorted rfl T.z_set boot_set (a_cons (e_plus (e_lc C.calm C.nd (i_alt (i_seq (e_V 7)) (i_signs (e_V 7))) (blkOk_by2 (N := ["_law_pot_here", "_law_some", "_law_pairs", "_law_k", "_law_mate", "_law_way", "_law_made", "_law_used", "_law_spots", "_law_this", "_law_pair"]) (sc := defScope s__law_of_right) (own := [("_law_pair", 10)]) rfl rfl (by decide +kernel)) (by decide) (fun _ _ _ _ _ => (g_N 10 C.nd)) (fun _ _ _ _ _ => c_yes) (fun _ _ _ _ _ => (e_sub (un1 hr) (e_V 10) e_int (fun _ _ => rfl) (fun _ _ => rfl)))) (e_lc C.calm C.nd (i_alt (i_seq (e_V 7)) (i_signs (e_V 7))) (blkOk_by2 (N := ["_law_pot_here", "_law_some", "_law_pairs", "_law_k", "_law_mate", "_law_way", "_law_made", "_law_used", "_law_spots", "_law_this", "_law_pair"]) (sc := defScope s__law_of_right) (own := [("_law_pair", 10)]) rfl rfl (by decide +kernel)) (by decide) (fun _ _ _ _ _ => (g_N 10 C.nd)) (fun _ _ _ _ _ => c_yes) (fun _ _ _ _ _ => (e_sub (un1 hr) (e_V 10) e_int (fun _ _ => rfl) (fun _ _ => rfl))))) a_nil)))
      (ss_one (s_ret (e_call (x := "_law_is") (ok__law_is T) defF_len C.tk (hr.mono (by decide)) rfl T.g__law_is T.F__law_is.kp T.b__law_is Plain.nil (a_cons (e_V 6) (a_cons (e_V 8) (a_cons (e_lc C.calm C.nd (i_seq (e_V 7)) (blkOk_by2 (N := ["_law_pot_here", "_law_some", "_law_pairs", "_law_k", "_law_mate", "_law_way", "_law_made", "_law_used", "_law_spots", "_law_this", "_law_pair"]) (sc := defScope s__law_of_right) (own := [("_law_this", 9), ("_law_mate", 4)]) rfl rfl (by decide +kernel)) (by decide) (fun _ _ _ _ _ => (g_tup C.calm (gs_cons (g_N 9 C.nd) (gs_cons (g_N 4 C.nd) gs_nil)))) (fun _ _ _ _ _ => c_yes) (fun _ _ _ _ _ => (e_call (x := "_law_link") (ok__law_link T) defF_len takes0 (hr.mono (by decide)) rfl T.g__law_link T.F__law_link.kp T.b__law_link Plain.nil (a_cons (e_V 9) (a_cons (e_V 4) a_nil))))) a_nil)))))))))))
def FR__law_of_right (C_Net : Addr) (ans : Value → Value → Option Bool) : BF := fun ds => F__law_of_right C_Net ans (ds ++ ([] : List PF.P).map .p)
def B__law_right (C_Net : Addr) (ans : Value → Value → Option Bool) : BS := (sSeq (sSet (bCall F__law_labels [] (bCons (bVar 0) bNil)) 1)
      (sSeq (sIf (bNot (bTest (bCB oAll (bCons (bLc (bRange2 (bCons (bC (.int 1)) (bCons (bC (.int 8)) bNil))) (gNm 2) bYes (bCall (F__law_size_right C_Net ans) [] (bCons (bVar 0) (bCons (bVar 1) (bCons (bVar 2) bNil)))) [2]) bNil))))
      (sRet (bC (.bl false)))
      sSkip)
      (sRet (bAndV (bCall (F__law_of_right C_Net ans) [] (bCons (bVar 0) (bCons (bVar 1) bNil))) (bCall (F__law_is C_Net ans) [] (bCons (bSM C_Net (FR_Net_of C_Net ans) (bC (.rf C_Net)) (bCons (bTup (bCons (bC (.str "b")) (bCons (bC (.str "a")) bNil))) bNil)) (bCons (bLst (bCons (bC (.str "a")) (bCons (bC (.str "b")) bNil))) (bCons (bLst (bCons (bTup (bCons (bC (.str "a")) (bCons (bC (.str "b")) bNil))) bNil)) bNil))))))))
theorem sc__law_right : FnScope ["_law_pot_here", "_law_some", "_law_size"] ["_law_pot_here"] (defScope s__law_right) := ⟨rfl, rfl, rfl, by decide +kernel, rfl, by decide +kernel, by decide +kernel⟩
def F__law_right (C_Net : Addr) (ans : Value → Value → Option Bool) : BF := defF 1 3 (B__law_right C_Net ans)
theorem ok__law_right (T : Tx K mg) : FnOk P w K mg base (L2.CX P w) 9 T.f__law_right T.fd__law_right ["_law_pot_here"] (spF K 1 (F__law_right T.C_Net T.ans)) :=
  fnD_ok T.F__law_right sc__law_right rfl rfl fun cdv A outer s H E hr C =>
    (ss_cons (s_S 1 C.nd (e_call (x := "_law_labels") (ok__law_labels T) defF_len C.tk (hr.mono (by decide)) rfl T.g__law_labels T.F__law_labels.kp T.b__law_labels Plain.nil (a_cons (e_V 0) a_nil)))
      (ss_cons (s_if (t_not (t_val (e_callB (x := "all") (cr_all C.calm) l_all rfl T.z_all boot_all (a_cons (e_lc C.calm C.nd (i_range2 rfl T.z_range (a_cons e_int (a_cons e_int a_nil))) (blkOk_by2 (N := ["_law_pot_here", "_law_some", "_law_size"]) (sc := defScope s__law_right) (own := [("_law_size", 2)]) rfl rfl (by decide +kernel)) (by decide) (fun _ _ _ _ _ => (g_N 2 C.nd)) (fun _ _ _ _ _ => c_yes) (fun _ _ _ _ _ => (e_call (x := "_law_size_right") (ok__law_size_right T) defF_len takes0 (hr.mono (by decide)) rfl T.g__law_size_right T.F__law_size_right.kp T.b__law_size_right Plain.nil (a_cons (e_V 0) (a_cons (e_V 1) (a_cons (e_V 2) a_nil)))))) a_nil))))
      (ss_one (s_ret e_bl))
      ss_nil)
      (ss_one (s_ret (e_and (e_call (x := "_law_of_right") (ok__law_of_right T) defF_len C.tk (hr.mono (by decide)) rfl T.g__law_of_right T.F__law_of_right.kp T.b__law_of_right Plain.nil (a_cons (e_V 0) (a_cons (e_V 1) a_nil))) (e_one (e_call (x := "_law_is") (ok__law_is T) defF_len C.tk (hr.mono (by decide)) rfl T.g__law_is T.F__law_is.kp T.b__law_is Plain.nil (a_cons (e_sm (e_rf rfl T.gC_Net) T.rd_Net T.sm_Net_of (fr_Net_of T) C.tk (hr.mono (by decide)) (a_cons (e_tup (a_cons e_str (a_cons e_str a_nil))) a_nil)) (a_cons (e_lst (a_cons e_str (a_cons e_str a_nil))) (a_cons (e_lst (a_cons (e_tup (a_cons e_str (a_cons e_str a_nil))) a_nil)) a_nil))))))))))
def FR__law_right (C_Net : Addr) (ans : Value → Value → Option Bool) : BF := fun ds => F__law_right C_Net ans (ds ++ ([] : List PF.P).map .p)
def B__law_pot : BS := (sSeq (sSet (bOp oPlus (bOp (o2i CMulW fun i j => i * j) (bC (.int 29)) (bVar 1)) (bC (.int 8))) 2)
      (sSeq (sIf (bTest (bOp (oAlt (o2b (fun i j => decide (i < j))) (o2sb (fun i j => decide (i.cps.toList < j.cps.toList)))) (bVar 1) (bCB oLen (bCons (bVar 0) bNil))))
      (sSet (bCB oAbs (bCons (bOp oSub (bVar 0) (bVar 1)) bNil)) 2)
      sSkip)
      (sRet (bLstM (bCons (bCB (o2L (fun i j => if j > i then j else i)) (bCons (bC (.int 0)) (bCons (bOp (o2i (fun _ _ => True) fun i j => i - j) (bVar 2) (bOp (o2i CPow fun i j => i ^ j.toNat) (bC (.int 10)) (bC (.int 18)))) bNil))) (bCons (bOp oPlus (bOp (o2i (fun _ j => 0 < j) fun i j => i % j) (bOp (o2i CMulW fun i j => i * j) (bCB oInt1 (bCons (bOp oPlus (bOp (o2i (fun _ j => 0 < j) fun i j => i % j) (bCB oInt1 (bCons (bVar 2) bNil)) (bC (.int 2147483549))) (bC (.int 7))) bNil)) (bOp (o2i CPow fun i j => i ^ j.toNat) (bOp oPlus (bOp (o2i CMulW fun i j => i * j) (bC (.int 2)) (bVar 1)) (bC (.int 3))) (bC (.int 3)))) (bC (.int 2147483477))) (bC (.int 1))) bNil))))))
theorem sc__law_pot : FnScope ["_law_script", "_law_k", "_law_cell"] ["_law_script", "_law_k"] (defScope s__law_pot) := ⟨rfl, rfl, rfl, by decide +kernel, rfl, by decide +kernel, by decide +kernel⟩
def F__law_pot : BF := defF 2 3 B__law_pot
theorem ok__law_pot (T : Tx K mg) : FnOk P w K mg base (L2.CX P w) 1 T.f__law_pot T.fd__law_pot ["_law_script", "_law_k"] (spF K 2 F__law_pot) :=
  fnD_ok T.F__law_pot sc__law_pot rfl rfl fun cdv A outer s H E hr C =>
    (ss_cons (s_S 2 C.nd (e_plus (e_op r2_i op_mulW e_int (e_V 1)) e_int))
      (ss_cons (s_if (t_pc (c_alt (c_op r2_b op_lt (e_V 1) (e_callB (x := "len") call_lenA l_len rfl T.z_len boot_len (a_cons (e_V 0) a_nil))) (c_op r2_sb op_lt_str (e_V 1) (e_callB (x := "len") call_lenA l_len rfl T.z_len boot_len (a_cons (e_V 0) a_nil)))) rfl)
      (ss_one (s_S 2 C.nd (e_callB (x := "abs") call_abs l_abs rfl T.z_abs boot_abs (a_cons (e_sub (un1 hr) (e_V 0) (e_V 1) (fun _ _ => rfl) (fun _ _ => rfl)) a_nil))))
      ss_nil)
      (ss_one (s_ret (e_lstM (a_cons (e_callB (x := "max") (call_max2 C.calm) (l_2 (g := (fun i j => if j > i then j else i))) rfl T.z_max boot_max (a_cons e_int (a_cons (e_op r2_i0 op_sub (e_V 2) (e_op r2_i op_pow e_int e_int)) a_nil))) (a_cons (e_plus (e_op r2_i op_mod (e_op r2_i op_mulW (e_callTy (x := "int") call_int1X l_int1 rfl T.z_int boot_int (a_cons (e_plus (e_op r2_i op_mod (e_callTy (x := "int") call_int1X l_int1 rfl T.z_int boot_int (a_cons (e_V 2) a_nil)) e_int) e_int) a_nil)) (e_op r2_i op_pow (e_plus (e_op r2_i op_mulW e_int (e_V 1)) e_int) e_int)) e_int) e_int) a_nil)))))))
def FR__law_pot : BF := fun ds => F__law_pot (ds ++ ([] : List PF.P).map .p)
def B_law (C_Net : Addr) (ans : Value → Value → Option Bool) : BS := (sRet (bCB oAll (bCons (bLc (bRange1 (bCons (bCB (o2L (fun i j => if j > i then j else i)) (bCons (bC (.int 1)) (bCons (bCB (o2L (fun i j => if j < i then j else i)) (bCons (bC (.int 4)) (bCons (bCB oLen (bCons (bVar 0) bNil)) bNil))) bNil))) bNil)) (gNm 1) bYes (bCall (F__law_right C_Net ans) [] (bCons (bCall F__law_pot [] (bCons (bVar 0) (bCons (bVar 1) bNil))) bNil)) [1]) bNil)))
theorem sc_law : FnScope ["_law_script", "_law_k"] ["_law_script"] (defScope s_law) := ⟨rfl, rfl, rfl, by decide +kernel, rfl, by decide +kernel, by decide +kernel⟩
def F_law (C_Net : Addr) (ans : Value → Value → Option Bool) : BF := defF 1 2 (B_law C_Net ans)
theorem ok_law (T : Tx K mg) : FnOk P w K mg base (L2.CX P w) 10 T.f_law T.fd_law ["_law_script"] (spF K 1 (F_law T.C_Net T.ans)) :=
  fnD_ok T.F_law sc_law rfl rfl fun cdv A outer s H E hr C =>
    (ss_one (s_ret (e_callB (x := "all") (cr_all C.calm) l_all rfl T.z_all boot_all (a_cons (e_lc C.calm C.nd (i_range1 rfl T.z_range (a_cons (e_callB (x := "max") (call_max2 C.calm) (l_2 (g := (fun i j => if j > i then j else i))) rfl T.z_max boot_max (a_cons e_int (a_cons (e_callB (x := "min") (call_min2 C.calm) (l_2 (g := (fun i j => if j < i then j else i))) rfl T.z_min boot_min (a_cons e_int (a_cons (e_callB (x := "len") call_lenA l_len rfl T.z_len boot_len (a_cons (e_V 0) a_nil)) a_nil))) a_nil))) a_nil)) (blkOk_by2 (N := ["_law_script", "_law_k"]) (sc := defScope s_law) (own := [("_law_k", 1)]) rfl rfl (by decide +kernel)) (by decide) (fun _ _ _ _ _ => (g_N 1 C.nd)) (fun _ _ _ _ _ => c_yes) (fun _ _ _ _ _ => (e_call (x := "_law_right") (ok__law_right T) defF_len takes0 (hr.mono (by decide)) rfl T.g__law_right T.F__law_right.kp T.b__law_right Plain.nil (a_cons (e_call (x := "_law_pot") (ok__law_pot T) defF_len takes0 (hr.mono (by decide)) rfl T.g__law_pot T.F__law_pot.kp T.b__law_pot Plain.nil (a_cons (e_V 0) (a_cons (e_V 1) a_nil))) a_nil)))) a_nil))))
def FR_law (C_Net : Addr) (ans : Value → Value → Option Bool) : BF := fun ds => F_law C_Net ans (ds ++ ([] : List PF.P).map .p)
end
end PF.k19

/-! text M1 -/
set_option Elab.async false
set_option linter.all false
set_option maxRecDepth 100000
namespace PF.k19
open PySem L2 PySem.Spec PyProof.Rows
local macro_rules | `(tactic| walk_at "ev") => `(tactic| simp only [wp_nx, wp_rt, fin, sIf, sRet_v, sThen, sSet_v, sAsg_v, sExpr_v, sSkip, sBreak, gNm, gTp, gCs, gNl, bVar, bC, bOp, bTest, bAnd, bOr, bNot, bIf, bOfT, bAndV, bOrV, bNil, bCons, bCall, bCB, bTup, bLst, pures, M.bind, M.ret, M.need, M.stuck, List.map_cons, List.map_nil, List.replicate, List.length_cons, List.length_nil, List.length_map, List.cons_append, List.nil_append, List.append_nil, List.getElem?_cons_zero, List.getElem?_cons_succ, List.set_cons_zero, List.set_cons_succ, Option.map_some, Nat.sub_self, Nat.zero_add, Nat.reduceAdd, Nat.reduceSub, List.take_length, Bool.not_true, Bool.not_false, if_true, if_false, ite_true, ite_false, reduceIte, reduceCtorEq, Bool.false_eq_true, oIsi, tyD, tyP, tyA, clsP, clsPs, ansAny, tupOf, lstOf, seqOf, strOf, intOf, dicOf, oLen, bChain, o2b, PF.sizeLine_eq, Nat.reduceLeDiff, Int.reduceLE, Int.reduceLT, decide_true, decide_false, bAlt, mAlt, oAlt, bSeq, bSigns, pureSeq, oIn_v, oInSeq, oInS, oDin, pyD, pyOf, pyOfs, PF.dicKey, oSub_v, oIx, o2eq, and_self, true_and, and_true, Nx, Gt, Option.isSome_some, isTupD, atI_0, atI_1, PyData.eqv, PyData.eqvAll, shaped_int, Int.reduceBEq, bNeg, Int.reduceNeg, o2sb, bEnum, bSl, bPart, bNoPart, Option.some.injEq, forall_const, *])
local macro_rules | `(tactic| walk_at "st") => `(tactic| (refine wp_seq fun k hk => ?_; walk_at "ev"; refine hk.out _ _ ?_; clear hk k))
local macro_rules | `(tactic| walk_at "start") => `(tactic| (refine defF_wp rfl ?_; simp only [startD, List.map_cons, List.map_nil, List.length_cons, List.length_nil, Nat.zero_add, Nat.reduceAdd, Nat.reduceSub, List.replicate, List.cons_append, List.nil_append, List.append_nil]))
/-! M1: names and links -/
structure An (ans : Value → Value → Option Bool) (C : Addr) : Prop where
  ll : ans (.type "list") (.type "list") = some true
  tl : ans (.type "tuple") (.type "list") = some false
  tt : ans (.type "tuple") (.type "tuple") = some true
  ss : ans (.type "str") (.type "str") = some true
  nn : ans (.ref C) (.ref C) = some true
def letters : Str := "abcdefghijklmnopqrstuvwxyz"
structure Nm (a : Str) : Prop where
  lo : 1 ≤ a.length
  hi : a.length ≤ 8
  ok : ∀ c ∈ a.cps.toList, c ∈ letters.cps.toList
theorem Nm.sok {a : Str} (n : Nm a) : PyData.strOk a = true := by
  unfold PyData.strOk
  rw [← Array.all_toList, List.all_eq_true]
  intro c hc
  have h := n.ok c hc
  have : ∀ c ∈ letters.cps.toList, c < 0x110000 := by decide +kernel
  exact decide_eq_true (this c h)
theorem Nm.shp {a : Str} (n : Nm a) : SeqAt.shaped (.str a) = true := shaped_str n.sok
variable {ans : Value → Value → Option Bool} {C : Addr} {A : AH}
theorem is_list_l (h : An ans C) {xs : List P} : F_is_list ans [.p (.lst xs)] A = some (.val (.p (.bl true)) A) := by
  obtain ⟨h1, h2, h3, h4, h5⟩ := h
  unfold F_is_list B_is_list
  walk_at "start"
  walk_at "ev"
theorem is_list_t (h : An ans C) {xs : List P} : F_is_list ans [.p (.tup xs)] A = some (.val (.p (.bl true)) A) := by
  obtain ⟨h1, h2, h3, h4, h5⟩ := h
  unfold F_is_list B_is_list
  walk_at "start"
  walk_at "ev"
theorem is_name_t (h : An ans C) {a : Str} (n : Nm a) : F_is_name ans [.p (.str a)] A = some (.val (.p (.bl true)) A) := by
  obtain ⟨h1, h2, h3, h4, h5⟩ := h
  have l1 : (1 : Int) ≤ (a.length : Int) := by have := n.lo; omega
  have l2 : (a.length : Int) ≤ 8 := by have := n.hi; omega
  have l3 : a.length ≤ 16777216 := by have := n.hi; omega
  have it : (bAlt (bSeq (bVar 0)) (bSigns (bVar 0))) [some (.p (.str a)), none] A = some (.val (a.cps.toList.map fun c => P.str ⟨#[c]⟩) A) := by walk_at "ev"
  obtain ⟨σ', A', loop, ⟨v, rfl⟩, rfl⟩ := sForE_inv (g := gNm 1) (b := sIf (bTest (bOp (oIn true) (bVar 1) (bC (P.str "abcdefghijklmnopqrstuvwxyz")))) sBreak sSkip) (fun _ σ B => (∃ v : Option D, σ = [some (.p (.str a)), v]) ∧ B = A) it ⟨⟨_, rfl⟩, rfl⟩ (by
      rintro i x σ B hx ⟨⟨v, rfl⟩, rfl⟩
      obtain ⟨c, hc, rfl⟩ := List.mem_map.mp (List.mem_of_getElem? hx)
      have hl := n.ok c hc
      unfold letters at hl
      walk_at "ev"
      exact ⟨_, rfl⟩)
  unfold F_is_name B_is_name
  walk_at "start"
  walk_at "st"
  refine wp_seq fun k hk => ?_
  rw [loop]
  walk_at "ev"
theorem is_link_t (h : An ans C) {a b : Str} (na : Nm a) (nb : Nm b) (hne : a ≠ b) : F_is_link ans [.p (.tup [.str a, .str b])] A = some (.val (.p (.bl true)) A) := by
  have e1 := is_name_t (A := A) h na
  have e2 := is_name_t (A := A) h nb
  have s1 := na.shp
  have s2 := nb.shp
  have hq : (a == b) = false := by simpa using hne
  obtain ⟨h1, h2, h3, h4, h5⟩ := h
  unfold F_is_link B_is_link
  walk_at "start"
  walk_at "st"
  walk_at "ev"
/-- a link as data -/
def lkP (p : Str × Str) : P := .tup [.str p.1, .str p.2]
abbrev iq : Str × Str → Str × Str := inq ltS
theorem iq_le {a b : Str} (h : ltS b a = false) : iq (a, b) = (a, b) := by
  unfold iq inq; rw [if_neg (by simp [h])]
theorem iq_gt {a b : Str} (h : ltS b a = true) : iq (a, b) = (b, a) := by
  unfold iq inq; rw [if_pos h]
theorem in_sequence_v (p : Str × Str) : F_in_sequence [.p (lkP p)] A = some (.val (.p (lkP (iq p))) A) := by
  obtain ⟨a, b⟩ := p
  unfold F_in_sequence B_in_sequence lkP
  walk_at "start"
  walk_at "st"
  cases e : ltS b a with
  | true =>
    have e' : b.cps.toList < a.cps.toList := of_decide_eq_true e
    rw [iq_gt e]
    walk_at "ev"
  | false =>
    have e' : ¬ b.cps.toList < a.cps.toList := of_decide_eq_false e
    rw [iq_le e]
    walk_at "ev"
theorem law_link_v {a b : Str} (hne : a ≠ b) : F__law_link [.p (.str a), .p (.str b)] A = some (.val (.p (lkP (iq (a, b)))) A) := by
  unfold F__law_link B__law_link lkP
  walk_at "start"
  cases e : ltS a b with
  | true =>
    have e' : a.cps.toList < b.cps.toList := of_decide_eq_true e
    rw [iq_le (ltS_ord.asym _ _ e)]
    walk_at "ev"
  | false =>
    have e' : ¬ a.cps.toList < b.cps.toList := of_decide_eq_false e
    rw [iq_gt (by
      cases e2 : ltS b a with
      | true => rfl
      | false => exact absurd (ltS_ord.tot _ _ e e2) hne)]
    walk_at "ev"
end PF.k19

/-! text M2 -/
set_option Elab.async false
set_option linter.all false
set_option maxRecDepth 100000
namespace PF.k19
open PySem L2 PySem.Spec PyProof.Rows
/-! M2: data -/
/-! ### data -/
abbrev nsP (ns : List Str) : List P := ns.map P.str
abbrev lsP (ls : List (Str × Str)) : List P := ls.map lkP
def sortS (ns : List Str) : List Str := (isort ltK (ns.map fun s => [s])).map fun k => k.headD ⟨#[]⟩
def un2 : List Str → Str × Str
  | [a, b] => (a, b)
  | _ => (⟨#[]⟩, ⟨#[]⟩)
def sortL (ls : List (Str × Str)) : List (Str × Str) := (isort ltK (ls.map fun p => [p.1, p.2])).map un2
theorem sortS_perm (ns : List Str) : (sortS ns).Perm ns := by
  have h := (isort_perm ltK (ns.map fun s => [s])).map fun k => k.headD ⟨#[]⟩
  rw [List.map_map] at h
  have e : ns.map ((fun k : List Str => k.headD ⟨#[]⟩) ∘ fun s => [s]) = ns := by
    conv => rhs; rw [← List.map_id ns]
    rfl
  rw [e] at h
  exact h
theorem sortL_perm (ls : List (Str × Str)) : (sortL ls).Perm ls := by
  have h := (isort_perm ltK (ls.map fun p => [p.1, p.2])).map un2
  rw [List.map_map] at h
  have e : ls.map (un2 ∘ fun p => [p.1, p.2]) = ls := by
    conv => rhs; rw [← List.map_id ls]
    rfl
  rw [e] at h
  exact h
theorem sortS_eq {ns ms : List Str} (h : ns.Perm ms) : sortS ns = sortS ms := by
  unfold sortS
  rw [sd_uniq ltK_ord (isort_sd ltK_ord _) (isort_sd ltK_ord _) (((isort_perm ltK _).trans (h.map _)).trans (isort_perm ltK _).symm)]
theorem sortL_eq {ns ms : List (Str × Str)} (h : ns.Perm ms) : sortL ns = sortL ms := by
  unfold sortL
  rw [sd_uniq ltK_ord (isort_sd ltK_ord _) (isort_sd ltK_ord _) (((isort_perm ltK _).trans (h.map _)).trans (isort_perm ltK _).symm)]
theorem keysP_ns : ∀ ns : List Str, keysP false (nsP ns) = some (ns.map fun s => [s])
  | [] => rfl
  | a :: r => by
    have := keysP_ns r
    simp only [nsP, List.map_cons, keysP, keyP] at this ⊢
    rw [this]
theorem keysP_ls : ∀ ls : List (Str × Str), keysP true (lsP ls) = some (ls.map fun p => [p.1, p.2])
  | [] => rfl
  | p :: r => by
    have := keysP_ls r
    simp only [lsP, List.map_cons, keysP, keyP, lkP, strsP, Option.map_some] at this ⊢
    rw [this]
theorem sortP_ns (ns : List Str) : sortP (nsP ns) = some (nsP (sortS ns)) := by
  unfold sortP
  rw [keysP_ns]
  simp only [sortS, nsP, List.map_map]
  rfl
theorem sortP_ls (ls : List (Str × Str)) : sortP (lsP ls) = some (lsP (sortL ls)) := by
  cases ls with
  | nil => rfl
  | cons p r =>
    unfold sortP
    have e : keysP false (lsP (p :: r)) = none := by simp only [lsP, List.map_cons, keysP, keyP, lkP]
    rw [e, keysP_ls]
    simp only [sortL, lsP, List.map_map]
    congr 1
    refine List.map_congr_left fun k hk => ?_
    obtain ⟨q, _, rfl⟩ := List.mem_map.mp ((isort_perm ltK _).mem_iff.mp hk)
    rfl
theorem pyOfs_ns : ∀ ns : List Str, pyOfs (ns.map P.str) = some (ns.map PyData.str)
  | [] => rfl
  | a :: r => by
    simp only [List.map_cons, pyOfs, pyOf, pyOfs_ns r]
def lkD (p : Str × Str) : PyData := .tuple [.str p.1, .str p.2]
theorem pyOfs_ls : ∀ ls : List (Str × Str), pyOfs (ls.map lkP) = some (ls.map lkD)
  | [] => rfl
  | a :: r => by
    simp only [List.map_cons, pyOfs, lkP, pyOf, pyOfs_ls r]
    rfl
theorem lay_ns : ∀ {ns : List Str}, (∀ a ∈ ns, Nm a) → PyData.canLayAll0 (ns.map PyData.str) = true ∧ PyData.depthAll (ns.map PyData.str) = 0
  | [], _ => ⟨rfl, rfl⟩
  | a :: r, h => by
    obtain ⟨h1, h2⟩ := lay_ns (ns := r) fun b hb => h b (List.mem_cons_of_mem _ hb)
    have := (h a List.mem_cons_self).sok
    simp only [List.map_cons, PyData.canLayAll0, PyData.canLay0, PyData.depthAll, PyData.depth, h1, h2, this]
    exact ⟨rfl, rfl⟩
theorem lay_ls : ∀ {ls : List (Str × Str)}, (∀ p ∈ ls, Nm p.1 ∧ Nm p.2) → PyData.canLayAll0 (ls.map lkD) = true ∧ PyData.depthAll (ls.map lkD) ≤ 1
  | [], _ => ⟨rfl, Nat.zero_le _⟩
  | a :: r, h => by
    obtain ⟨h1, h2⟩ := lay_ls (ls := r) fun b hb => h b (List.mem_cons_of_mem _ hb)
    obtain ⟨n1, n2⟩ := h a List.mem_cons_self
    have n1 := n1.sok
    have n2 := n2.sok
    simp only [List.map_cons, PyData.canLayAll0, PyData.canLay0, PyData.depthAll, PyData.depth, h1, lkD, n1, n2]
    refine ⟨rfl, ?_⟩
    omega
theorem shaped_nsL {ns : List Str} (h : ∀ a ∈ ns, Nm a) : SeqAt.shaped (.list (ns.map PyData.str)) = true := by
  unfold SeqAt.shaped PyData.canLay0 PyData.depth
  rw [(lay_ns h).1, (lay_ns h).2]; rfl
theorem shaped_nsT {ns : List Str} (h : ∀ a ∈ ns, Nm a) : SeqAt.shaped (.tuple (ns.map PyData.str)) = true := by
  unfold SeqAt.shaped PyData.canLay0 PyData.depth
  rw [(lay_ns h).1, (lay_ns h).2]; rfl
theorem shaped_lsT {ls : List (Str × Str)} (h : ∀ p ∈ ls, Nm p.1 ∧ Nm p.2) : SeqAt.shaped (.tuple (ls.map lkD)) = true := by
  unfold SeqAt.shaped PyData.canLay0 PyData.depth
  have := (lay_ls h).2
  rw [(lay_ls h).1, decide_eq_true (by omega)]; rfl
theorem shaped_lsL {ls : List (Str × Str)} (h : ∀ p ∈ ls, Nm p.1 ∧ Nm p.2) : SeqAt.shaped (.list (ls.map lkD)) = true := by
  unfold SeqAt.shaped PyData.canLay0 PyData.depth
  have := (lay_ls h).2
  rw [(lay_ls h).1, decide_eq_true (by omega)]; rfl
theorem shaped_lk {p : Str × Str} (h : Nm p.1 ∧ Nm p.2) : SeqAt.shaped (.tuple [.str p.1, .str p.2]) = true := by
  have h1 := h.1.sok
  have h2 := h.2.sok
  simp [SeqAt.shaped, PyData.canLay0, PyData.canLayAll0, PyData.depth, PyData.depthAll, h1, h2]
theorem any_str (ns : List Str) (a : Str) : ((ns.map PyData.str).any fun z => PyData.eqv z (.str a)) = decide (a ∈ ns) := by
  rw [List.any_map]
  induction ns with
  | nil => rfl
  | cons b r ih =>
    simp only [List.any_cons, Function.comp_apply, PyData.eqv, List.mem_cons]
    rw [show (r.any ((fun z => PyData.eqv z (.str a)) ∘ PyData.str)) = decide (a ∈ r) from ih]
    by_cases e : b = a
    · subst e; simp
    · have e' : ¬ a = b := fun z => e z.symm
      simp [e, e']
theorem enumP_get (xs : List P) (i : Nat) : (enumP xs)[i]? = xs[i]?.map fun x => .tup [.int (i : Nat), x] := by
  unfold enumP
  rw [List.getElem?_mapIdx]
theorem snoc_get {α : Type} (A : List α) (x : α) : (A ++ [x])[A.length]? = some x := by simp
theorem snoc_set {α : Type} (A : List α) (x y : α) : (A ++ [x]).set A.length y = A ++ [y] := by
  rw [List.set_append_right _ _ (Nat.le_refl _), Nat.sub_self]; rfl
theorem dKey_str (a : Str) : dKey false (.str a) = some [.inr a] := rfl
theorem dKey_lk (a b : Str) : dKey true (.tup [.str a, .str b]) = some [.inr a, .inr b] := rfl
theorem dKey_lkP (p : Str × Str) : dKey true (lkP p) = some [.inr p.1, .inr p.2] := rfl
/-- a dict from names -/
def kvN (ns : List Str) (f : Str → P) : List (P × P) := ns.map fun a => (.str a, f a)
theorem find_kvN (ns : List Str) (f : Str → P) (a : Str) : findD false (kvN ns f) (.str a) = if a ∈ ns then some (f a) else none := by
  unfold findD kvN
  induction ns with
  | nil => rfl
  | cons b r ih =>
    rw [List.map_cons, List.find?_cons]
    simp only [dKey_str, Option.some.injEq, List.cons.injEq, Sum.inr.injEq, and_true] at ih ⊢
    by_cases e : b = a
    · subst e; simp
    · have e' : ¬ a = b := fun z => e z.symm
      simp only [e, decide_false, List.mem_cons, e', false_or]
      exact ih
theorem put_kvN {ns : List Str} {f : Str → P} {a : Str} (h : a ∈ ns) (x : P) : putD false (kvN ns f) (.str a) x = kvN ns fun b => if b = a then x else f b := by
  unfold putD kvN
  rw [if_pos]
  · rw [List.map_map]
    refine List.map_congr_left fun b _ => ?_
    simp only [Function.comp_apply, dKey_str, Option.some.injEq, List.cons.injEq, Sum.inr.injEq, and_true]
    split <;> rfl
  · simp only [List.any_eq_true, decide_eq_true_eq]
    exact ⟨_, List.mem_map.mpr ⟨a, h, rfl⟩, rfl⟩
def kvL (ls : List (Str × Str)) : List (P × P) := ls.map fun p => (lkP p, .bl true)
theorem find_kvL {ls : List (Str × Str)} {p : Str × Str} (h : p ∉ ls) : findD true (kvL ls) (lkP p) = none := by
  unfold findD kvL
  rw [List.find?_eq_none.mpr]
  · rfl
  · intro kv hkv
    obtain ⟨q, hq, rfl⟩ := List.mem_map.mp hkv
    simp only [dKey_lkP, Option.some.injEq, List.cons.injEq, Sum.inr.injEq, and_true, decide_eq_true_eq]
    intro e
    exact h (by rw [← Prod.ext e.1 e.2]; exact hq)
theorem put_kvL {ls : List (Str × Str)} {p : Str × Str} (h : p ∉ ls) : putD true (kvL ls) (lkP p) (.bl true) = kvL (ls ++ [p]) := by
  rw [putD_new]
  · simp [kvL]
  · intro kv hkv
    obtain ⟨q, hq, rfl⟩ := List.mem_map.mp hkv
    simp only [dKey_lkP, ne_eq, Option.some.injEq, List.cons.injEq, Sum.inr.injEq, and_true]
    intro e
    exact h (by rw [← Prod.ext e.1 e.2]; exact hq)
end PF.k19

/-! text M3 -/
set_option Elab.async false
set_option linter.all false
set_option maxRecDepth 100000
namespace PF.k19
open PySem L2 PySem.Spec PyProof.Rows
local macro_rules | `(tactic| walk_at "ev") => `(tactic| simp only [wp_nx, wp_rt, fin, sIf, sRet_v, sThen, sSet_v, sAsg_v, sExpr_v, sSkip, sBreak, gNm, gTp, gCs, gNl, bVar, bC, bOp, bTest, bAnd, bOr, bNot, bIf, bOfT, bAndV, bOrV, bNil, bCons, bCall, bCB, bTup, bLst, pures, M.bind, M.ret, M.need, M.stuck, List.map_cons, List.map_nil, List.replicate, List.length_cons, List.length_nil, List.length_map, List.cons_append, List.nil_append, List.append_nil, List.getElem?_cons_zero, List.getElem?_cons_succ, List.set_cons_zero, List.set_cons_succ, Option.map_some, Nat.sub_self, Nat.zero_add, Nat.reduceAdd, Nat.reduceSub, List.take_length, Bool.not_true, Bool.not_false, if_true, if_false, ite_true, ite_false, reduceIte, reduceCtorEq, Bool.false_eq_true, oIsi, tyD, tyP, tyA, clsP, clsPs, ansAny, tupOf, lstOf, seqOf, strOf, intOf, dicOf, oLen, bChain, o2b, PF.sizeLine_eq, Nat.reduceLeDiff, Int.reduceLE, Int.reduceLT, decide_true, decide_false, bAlt, mAlt, oAlt, bSeq, bSigns, pureSeq, oIn_v, oInSeq, oInS, oDin, pyD, pyOf, pyOfs, PF.dicKey, oSub_v, oIx, oDget, o2eq, and_self, true_and, and_true, Nx, Gt, Option.isSome_some, Option.isSome_none, isTupD, atI_0, atI_1, PyData.eqv, PyData.eqvAll, shaped_int, Int.reduceBEq, bNeg, Int.reduceNeg, o2sb, bEnum, bSl, bPart, bNoPart, Option.some.injEq, forall_const, lkP, snoc_get, snoc_set, List.take_left, oIsNot, oIs, isNon, bDnew, sDput_v, endPut, dKey_str, dKey_lk, bFld, insOf, List.lookup, bStar, oTuple, *])
local macro_rules | `(tactic| walk_at "st") => `(tactic| (refine wp_seq fun k hk => ?_; walk_at "ev"; refine hk.out _ _ ?_; clear hk k))
local macro_rules | `(tactic| walk_at "start") => `(tactic| (refine defF_wp rfl ?_; simp only [startD, List.map_cons, List.map_nil, List.length_cons, List.length_nil, Nat.zero_add, Nat.reduceAdd, Nat.reduceSub, List.replicate, List.cons_append, List.nil_append, List.append_nil]))
/-! M3: names, links, neighbours, the making of a net -/
variable {ans : Value → Value → Option Bool} {C : Addr} {A : AH}
theorem nth_ns {ns : List Str} {i : Nat} {x : P} (h : (nsP ns)[i]? = some x) : ∃ a, ns[i]? = some a ∧ x = .str a := by
  rw [List.getElem?_map] at h
  cases e : ns[i]? with
  | none => rw [e] at h; cases h
  | some a => rw [e] at h; exact ⟨a, rfl, (Option.some.inj h).symm⟩
theorem enum_ns {ns : List Str} {i : Nat} {x : P} (h : (enumP (nsP ns))[i]? = some x) : ∃ a, ns[i]? = some a ∧ x = .tup [.int (i : Nat), .str a] := by
  rw [enumP_get] at h
  cases e : (nsP ns)[i]? with
  | none => rw [e] at h; cases h
  | some y =>
    obtain ⟨a, ha, rfl⟩ := nth_ns e
    rw [e] at h
    exact ⟨a, ha, (Option.some.inj h).symm⟩
theorem enum_ls {ls : List (Str × Str)} {i : Nat} {x : P} (h : (enumP (lsP ls))[i]? = some x) : ∃ p, ls[i]? = some p ∧ x = .tup [.int (i : Nat), lkP p] := by
  rw [enumP_get, List.getElem?_map] at h
  cases e : ls[i]? with
  | none => rw [e] at h; cases h
  | some p => rw [e] at h; exact ⟨p, rfl, (Option.some.inj h).symm⟩
theorem not_in_take {α : Type} [DecidableEq α] {l : List α} (nd : l.Nodup) {i : Nat} {a : α} (h : l[i]? = some a) : a ∉ l.take i := by
  intro hm
  obtain ⟨j, hj⟩ := List.getElem?_of_mem hm
  rw [List.getElem?_take] at hj
  split at hj
  · rename_i hlt
    obtain ⟨h1, h2⟩ := List.getElem?_eq_some_iff.mp h
    obtain ⟨h3, h4⟩ := List.getElem?_eq_some_iff.mp hj
    have := (List.getElem_inj (h₀ := h3) (h₁ := h1) nd).mp (h4.trans h2.symm)
    omega
  · cases hj
theorem want_names_t (h : An ans C) {ns : List Str} (hn : ∀ a ∈ ns, Nm a) (nd : ns.Nodup) (h0 : ns ≠ []) (h60 : ns.length ≤ 60) : F_want_names ans [.p (.tup (nsP ns))] A = some (.val (.p .non) A) := by
  have hl := is_list_t (A := A) h (xs := nsP ns)
  have hz : ((ns.length : Int) == 0) = false := by
    have : ns.length ≠ 0 := fun e => h0 (List.eq_nil_of_length_eq_zero e)
    simp; exact h0
  have it : (bEnum (bCons (bVar 0) bNil)) [some (.p (.tup (nsP ns))), none, none] A = some (.val (enumP (nsP ns)) A) := by walk_at "ev"
  unfold F_want_names B_want_names
  walk_at "start"
  walk_at "st"
  obtain ⟨σ', A', loop, ⟨v, w, rfl⟩, rfl⟩ := sFor_inv (g := gTp 2 (gCs (gNm 1) (gCs (gNm 2) gNl))) (b := sIf (bOr (bNot (bTest (bCall (F_is_name ans) [] (bCons (bVar 2) bNil)))) (bTest (bOp (oIn false) (bVar 2) (bSl (bVar 0) bNoPart (bPart (bVar 1)))))) sNever sSkip)
    (fun _ σ B => (∃ v w : Option D, σ = [some (.p (.tup (nsP ns))), v, w]) ∧ B = A) it ⟨⟨_, _, rfl⟩, rfl⟩ (by
      rintro i x σ B hx ⟨⟨v, w, rfl⟩, rfl⟩
      obtain ⟨a, ha, rfl⟩ := enum_ns hx
      have hm := List.mem_of_getElem? ha
      have e1 := is_name_t (A := B) h (hn a hm)
      have hnt := not_in_take nd ha
      have e2 : pyOfs (List.take i (nsP ns)) = some ((ns.take i).map PyData.str) := by rw [← List.map_take, pyOfs_ns]
      have e3 := shaped_nsL (ns := ns.take i) fun b hb => hn b (List.mem_of_mem_take hb)
      have e4 := (hn a hm).shp
      have e5 := any_str (ns.take i) a
      have e6 := oSl_tup_to (xs := nsP ns) (k := i) (A := B)
      have e7 : decide (a ∈ ns.take i) = false := decide_eq_false hnt
      clear hx
      walk_at "ev"
      exact ⟨_, _, rfl⟩)
  rw [loop]
  walk_at "ev"
theorem want_names_l (h : An ans C) {ns : List Str} (hn : ∀ a ∈ ns, Nm a) (nd : ns.Nodup) (h0 : ns ≠ []) (h60 : ns.length ≤ 60) : F_want_names ans [.p (.lst (nsP ns))] A = some (.val (.p .non) A) := by
  have hl := is_list_l (A := A) h (xs := nsP ns)
  have hz : ((ns.length : Int) == 0) = false := by
    have : ns.length ≠ 0 := fun e => h0 (List.eq_nil_of_length_eq_zero e)
    simp; exact h0
  have it : (bEnum (bCons (bVar 0) bNil)) [some (.p (.lst (nsP ns))), none, none] A = some (.val (enumP (nsP ns)) A) := by walk_at "ev"
  unfold F_want_names B_want_names
  walk_at "start"
  walk_at "st"
  obtain ⟨σ', A', loop, ⟨v, w, rfl⟩, rfl⟩ := sFor_inv (g := gTp 2 (gCs (gNm 1) (gCs (gNm 2) gNl))) (b := sIf (bOr (bNot (bTest (bCall (F_is_name ans) [] (bCons (bVar 2) bNil)))) (bTest (bOp (oIn false) (bVar 2) (bSl (bVar 0) bNoPart (bPart (bVar 1)))))) sNever sSkip)
    (fun _ σ B => (∃ v w : Option D, σ = [some (.p (.lst (nsP ns))), v, w]) ∧ B = A) it ⟨⟨_, _, rfl⟩, rfl⟩ (by
      rintro i x σ B hx ⟨⟨v, w, rfl⟩, rfl⟩
      obtain ⟨a, ha, rfl⟩ := enum_ns hx
      have hm := List.mem_of_getElem? ha
      have e1 := is_name_t (A := B) h (hn a hm)
      have hnt := not_in_take nd ha
      have e2 : pyOfs (List.take i (nsP ns)) = some ((ns.take i).map PyData.str) := by rw [← List.map_take, pyOfs_ns]
      have e3 := shaped_nsL (ns := ns.take i) fun b hb => hn b (List.mem_of_mem_take hb)
      have e4 := (hn a hm).shp
      have e5 := any_str (ns.take i) a
      have e6 := oSl_lst_to (xs := nsP ns) (k := i) (A := B)
      have e7 : decide (a ∈ ns.take i) = false := decide_eq_false hnt
      clear hx
      walk_at "ev"
      exact ⟨_, _, rfl⟩)
  rw [loop]
  walk_at "ev"
end PF.k19

/-! text M4 -/
set_option Elab.async false
set_option linter.all false
set_option maxRecDepth 100000
namespace PF.k19
open PySem L2 PySem.Spec PyProof.Rows
local macro_rules | `(tactic| walk_at "ev") => `(tactic| simp only [wp_nx, wp_rt, fin, sIf, sRet_v, sThen, sSet_v, sAsg_v, sExpr_v, sSkip, sBreak, gNm, gTp, gCs, gNl, bVar, bC, bOp, bTest, bAnd, bOr, bNot, bIf, bOfT, bAndV, bOrV, bNil, bCons, bCall, bCB, bTup, bLst, pures, M.bind, M.ret, M.need, M.stuck, List.map_cons, List.map_nil, List.replicate, List.length_cons, List.length_nil, List.length_map, List.cons_append, List.nil_append, List.append_nil, List.getElem?_cons_zero, List.getElem?_cons_succ, List.set_cons_zero, List.set_cons_succ, Option.map_some, Nat.sub_self, Nat.zero_add, Nat.reduceAdd, Nat.reduceSub, List.take_length, Bool.not_true, Bool.not_false, if_true, if_false, ite_true, ite_false, reduceIte, reduceCtorEq, Bool.false_eq_true, oIsi, tyD, tyP, tyA, clsP, clsPs, ansAny, tupOf, lstOf, seqOf, strOf, intOf, dicOf, oLen, bChain, o2b, PF.sizeLine_eq, Nat.reduceLeDiff, Int.reduceLE, Int.reduceLT, decide_true, decide_false, bAlt, mAlt, oAlt, bSeq, bSigns, pureSeq, oIn_v, oInSeq, oInS, oDin, pyD, pyOf, pyOfs, PF.dicKey, oSub_v, oIx, oDget, o2eq, and_self, true_and, and_true, Nx, Gt, Option.isSome_some, Option.isSome_none, isTupD, atI_0, atI_1, PyData.eqv, PyData.eqvAll, shaped_int, Int.reduceBEq, bNeg, Int.reduceNeg, o2sb, bEnum, bSl, bPart, bNoPart, Option.some.injEq, forall_const, lkP, snoc_get, snoc_set, List.take_left, oIsNot, oIs, isNon, bDnew, sDput_v, endPut, dKey_str, dKey_lk, bFld, insOf, List.lookup, bStar, oTuple, putAt, oSorted, colP, *])
local macro_rules | `(tactic| walk_at "st") => `(tactic| (refine wp_seq fun k hk => ?_; walk_at "ev"; refine hk.out _ _ ?_; clear hk k))
local macro_rules | `(tactic| walk_at "start") => `(tactic| (refine defF_wp rfl ?_; simp only [startD, List.map_cons, List.map_nil, List.length_cons, List.length_nil, Nat.zero_add, Nat.reduceAdd, Nat.reduceSub, List.replicate, List.cons_append, List.nil_append, List.append_nil]))

/-! M4: pairs_of -/
variable {ans : Value → Value → Option Bool} {C : Addr} {A : AH}

theorem pairs_of_l (h : An ans C) {ns : List Str} {ls : List (Str × Str)} (hn : ∀ a ∈ ns, Nm a) (hl : ∀ p ∈ ls, p.1 ∈ ns ∧ p.2 ∈ ns ∧ p.1 ≠ p.2) (nd : (nrm ltS ls).Nodup) (h120 : ls.length ≤ 120) :
    F_pairs_of ans [.p (.lst (lsP ls)), .p (.dic false (kvN ns fun _ => .bl true))] A = some (.val (.p (.lst (lsP (sortL (nrm ltS ls))))) A) := by
  have hil := is_list_l (A := A) h (xs := lsP ls)
  unfold F_pairs_of B_pairs_of
  walk_at "start"
  walk_at "st"
  walk_at "st"
  have it : (bEnum (bCons (bVar 0) bNil)) [some (.p (.lst (lsP ls))), some (.p (.dic false (kvN ns fun _ => .bl true))), some (.ref A.length), none, none, none] (A ++ [some (.dic true [])]) = some (.val (enumP (lsP ls)) (A ++ [some (.dic true [])])) := by walk_at "ev"
  obtain ⟨σ', A', loop, ⟨v, w, u, rfl⟩, rfl⟩ := sFor_inv (g := gTp 2 (gCs (gNm 3) (gCs (gNm 4) gNl)))
    (b := (sSeq (sIf (bOr (bNot (bTest (bCall (F_is_link ans) [] (bCons (bVar 4) bNil)))) (bAnd (bTest (bOp oIsNot (bVar 1) (bC .non))) (bNot (bAnd (bTest (bOp (oIn false) (bOp oSub (bVar 4) (bC (.int 0))) (bVar 1))) (bTest (bOp (oIn false) (bOp oSub (bVar 4) (bC (.int 1))) (bVar 1)))))))
      sNever
      sSkip)
      (sSeq (sSet (bCall F_in_sequence [] (bCons (bVar 4) bNil)) 5)
      (sSeq (sIf (bTest (bOp (oIn false) (bVar 5) (bVar 2)))
      sNever
      sSkip)
      (sDput (bVar 2) (bVar 5) (bC (.bl true)))))))
    (fun i σ B => (∃ v w u : Option D, σ = [some (.p (.lst (lsP ls))), some (.p (.dic false (kvN ns fun _ => .bl true))), some (.ref A.length), v, w, u]) ∧ B = A ++ [some (.dic true (kvL (nrm ltS (ls.take i))))]) it ⟨⟨_, _, _, rfl⟩, rfl⟩ (by
      rintro i x σ B hx ⟨⟨v, w, u, rfl⟩, rfl⟩
      obtain ⟨⟨a, b⟩, hp, rfl⟩ := enum_ls hx
      clear hx it
      have hlt := (List.getElem?_eq_some_iff.mp hp).1
      obtain ⟨ma, mb, hne⟩ := hl _ (List.mem_of_getElem? hp)
      have q1 := is_link_t (A := A ++ [some (.dic true (kvL (nrm ltS (ls.take i))))]) h (hn _ ma) (hn _ mb) hne
      have q2 := in_sequence_v (A := A ++ [some (.dic true (kvL (nrm ltS (ls.take i))))]) (a, b)
      have hp2 : (nrm ltS ls)[i]? = some (iq (a, b)) := by rw [List.getElem?_map, hp]; rfl
      have hni : iq (a, b) ∉ nrm ltS (ls.take i) := by
        have := not_in_take nd hp2
        rwa [← List.map_take] at this
      have q3 := find_kvL hni
      have q4 := put_kvL hni
      have q5 : nrm ltS (ls.take i) ++ [iq (a, b)] = nrm ltS (ls.take (i + 1)) := by
        rw [List.take_succ_eq_append_getElem hlt, nrm, nrm, List.map_append, List.map_singleton]
        have : ls[i] = (a, b) := by have := List.getElem?_eq_some_iff.mp hp; exact this.2
        rw [this]
      have q6 : (kvL (nrm ltS (ls.take i))).length < 16777216 := by simp only [kvL, List.length_map, List.length_take]; omega
      have q7 : pyOf (lkP (iq (a, b))) = some (.tuple [.str (iq (a, b)).1, .str (iq (a, b)).2]) := by simp only [lkP, pyOf, pyOfs, Option.map_some]
      rw [q5] at q4
      generalize iq (a, b) = q at q2 q3 q4 q7
      obtain ⟨qa, qb⟩ := q
      have w1 : findD false (kvN ns fun _ => .bl true) (.str a) = some (.bl true) := by rw [find_kvN, if_pos ma]
      have w2 : findD false (kvN ns fun _ => .bl true) (.str b) = some (.bl true) := by rw [find_kvN, if_pos mb]
      clear hp hp2 hni q5
      simp only [sSeq, putAt, lkP] at q1 q2 q3 q4 q7 ⊢
      walk_at "ev"
      exact ⟨_, _, _, rfl⟩)
  refine wp_at loop ?_
  have s1 : (kvL (nrm ltS (ls.take (enumP (lsP ls)).length))).map (·.1) = lsP (nrm ltS ls) := by
    have : (enumP (lsP ls)).length = ls.length := by unfold enumP; simp
    rw [this, List.take_length]
    simp [kvL, lsP]
  have s2 := sortP_ls (nrm ltS ls)
  walk_at "ev"

theorem pairs_of_t (h : An ans C) {ns : List Str} {ls : List (Str × Str)} (hn : ∀ a ∈ ns, Nm a) (hl : ∀ p ∈ ls, p.1 ∈ ns ∧ p.2 ∈ ns ∧ p.1 ≠ p.2) (nd : (nrm ltS ls).Nodup) (h120 : ls.length ≤ 120) :
    F_pairs_of ans [.p (.tup (lsP ls)), .p (.dic false (kvN ns fun _ => .bl true))] A = some (.val (.p (.lst (lsP (sortL (nrm ltS ls))))) A) := by
  have hil := is_list_t (A := A) h (xs := lsP ls)
  unfold F_pairs_of B_pairs_of
  walk_at "start"
  walk_at "st"
  walk_at "st"
  have it : (bEnum (bCons (bVar 0) bNil)) [some (.p (.tup (lsP ls))), some (.p (.dic false (kvN ns fun _ => .bl true))), some (.ref A.length), none, none, none] (A ++ [some (.dic true [])]) = some (.val (enumP (lsP ls)) (A ++ [some (.dic true [])])) := by walk_at "ev"
  obtain ⟨σ', A', loop, ⟨v, w, u, rfl⟩, rfl⟩ := sFor_inv (g := gTp 2 (gCs (gNm 3) (gCs (gNm 4) gNl)))
    (b := (sSeq (sIf (bOr (bNot (bTest (bCall (F_is_link ans) [] (bCons (bVar 4) bNil)))) (bAnd (bTest (bOp oIsNot (bVar 1) (bC .non))) (bNot (bAnd (bTest (bOp (oIn false) (bOp oSub (bVar 4) (bC (.int 0))) (bVar 1))) (bTest (bOp (oIn false) (bOp oSub (bVar 4) (bC (.int 1))) (bVar 1)))))))
      sNever
      sSkip)
      (sSeq (sSet (bCall F_in_sequence [] (bCons (bVar 4) bNil)) 5)
      (sSeq (sIf (bTest (bOp (oIn false) (bVar 5) (bVar 2)))
      sNever
      sSkip)
      (sDput (bVar 2) (bVar 5) (bC (.bl true)))))))
    (fun i σ B => (∃ v w u : Option D, σ = [some (.p (.tup (lsP ls))), some (.p (.dic false (kvN ns fun _ => .bl true))), some (.ref A.length), v, w, u]) ∧ B = A ++ [some (.dic true (kvL (nrm ltS (ls.take i))))]) it ⟨⟨_, _, _, rfl⟩, rfl⟩ (by
      rintro i x σ B hx ⟨⟨v, w, u, rfl⟩, rfl⟩
      obtain ⟨⟨a, b⟩, hp, rfl⟩ := enum_ls hx
      clear hx it
      have hlt := (List.getElem?_eq_some_iff.mp hp).1
      obtain ⟨ma, mb, hne⟩ := hl _ (List.mem_of_getElem? hp)
      have q1 := is_link_t (A := A ++ [some (.dic true (kvL (nrm ltS (ls.take i))))]) h (hn _ ma) (hn _ mb) hne
      have q2 := in_sequence_v (A := A ++ [some (.dic true (kvL (nrm ltS (ls.take i))))]) (a, b)
      have hp2 : (nrm ltS ls)[i]? = some (iq (a, b)) := by rw [List.getElem?_map, hp]; rfl
      have hni : iq (a, b) ∉ nrm ltS (ls.take i) := by
        have := not_in_take nd hp2
        rwa [← List.map_take] at this
      have q3 := find_kvL hni
      have q4 := put_kvL hni
      have q5 : nrm ltS (ls.take i) ++ [iq (a, b)] = nrm ltS (ls.take (i + 1)) := by
        rw [List.take_succ_eq_append_getElem hlt, nrm, nrm, List.map_append, List.map_singleton]
        have : ls[i] = (a, b) := by have := List.getElem?_eq_some_iff.mp hp; exact this.2
        rw [this]
      have q6 : (kvL (nrm ltS (ls.take i))).length < 16777216 := by simp only [kvL, List.length_map, List.length_take]; omega
      have q7 : pyOf (lkP (iq (a, b))) = some (.tuple [.str (iq (a, b)).1, .str (iq (a, b)).2]) := by simp only [lkP, pyOf, pyOfs, Option.map_some]
      rw [q5] at q4
      generalize iq (a, b) = q at q2 q3 q4 q7
      obtain ⟨qa, qb⟩ := q
      have w1 : findD false (kvN ns fun _ => .bl true) (.str a) = some (.bl true) := by rw [find_kvN, if_pos ma]
      have w2 : findD false (kvN ns fun _ => .bl true) (.str b) = some (.bl true) := by rw [find_kvN, if_pos mb]
      clear hp hp2 hni q5
      simp only [sSeq, putAt, lkP] at q1 q2 q3 q4 q7 ⊢
      walk_at "ev"
      exact ⟨_, _, _, rfl⟩)
  refine wp_at loop ?_
  have s1 : (kvL (nrm ltS (ls.take (enumP (lsP ls)).length))).map (·.1) = lsP (nrm ltS ls) := by
    have : (enumP (lsP ls)).length = ls.length := by unfold enumP; simp
    rw [this, List.take_length]
    simp [kvL, lsP]
  have s2 := sortP_ls (nrm ltS ls)
  walk_at "ev"

theorem pairs_of_n (h : An ans C) {ns : List Str} {ls : List (Str × Str)} (hn : ∀ a ∈ ns, Nm a) (hl : ∀ p ∈ ls, p.1 ∈ ns ∧ p.2 ∈ ns ∧ p.1 ≠ p.2) (nd : (nrm ltS ls).Nodup) (h120 : ls.length ≤ 120) :
    F_pairs_of ans [.p (.tup (lsP ls)), .p .non] A = some (.val (.p (.lst (lsP (sortL (nrm ltS ls))))) A) := by
  have hil := is_list_t (A := A) h (xs := lsP ls)
  unfold F_pairs_of B_pairs_of
  walk_at "start"
  walk_at "st"
  walk_at "st"
  have it : (bEnum (bCons (bVar 0) bNil)) [some (.p (.tup (lsP ls))), some (.p .non), some (.ref A.length), none, none, none] (A ++ [some (.dic true [])]) = some (.val (enumP (lsP ls)) (A ++ [some (.dic true [])])) := by walk_at "ev"
  obtain ⟨σ', A', loop, ⟨v, w, u, rfl⟩, rfl⟩ := sFor_inv (g := gTp 2 (gCs (gNm 3) (gCs (gNm 4) gNl)))
    (b := (sSeq (sIf (bOr (bNot (bTest (bCall (F_is_link ans) [] (bCons (bVar 4) bNil)))) (bAnd (bTest (bOp oIsNot (bVar 1) (bC .non))) (bNot (bAnd (bTest (bOp (oIn false) (bOp oSub (bVar 4) (bC (.int 0))) (bVar 1))) (bTest (bOp (oIn false) (bOp oSub (bVar 4) (bC (.int 1))) (bVar 1)))))))
      sNever
      sSkip)
      (sSeq (sSet (bCall F_in_sequence [] (bCons (bVar 4) bNil)) 5)
      (sSeq (sIf (bTest (bOp (oIn false) (bVar 5) (bVar 2)))
      sNever
      sSkip)
      (sDput (bVar 2) (bVar 5) (bC (.bl true)))))))
    (fun i σ B => (∃ v w u : Option D, σ = [some (.p (.tup (lsP ls))), some (.p .non), some (.ref A.length), v, w, u]) ∧ B = A ++ [some (.dic true (kvL (nrm ltS (ls.take i))))]) it ⟨⟨_, _, _, rfl⟩, rfl⟩ (by
      rintro i x σ B hx ⟨⟨v, w, u, rfl⟩, rfl⟩
      obtain ⟨⟨a, b⟩, hp, rfl⟩ := enum_ls hx
      clear hx it
      have hlt := (List.getElem?_eq_some_iff.mp hp).1
      obtain ⟨ma, mb, hne⟩ := hl _ (List.mem_of_getElem? hp)
      have q1 := is_link_t (A := A ++ [some (.dic true (kvL (nrm ltS (ls.take i))))]) h (hn _ ma) (hn _ mb) hne
      have q2 := in_sequence_v (A := A ++ [some (.dic true (kvL (nrm ltS (ls.take i))))]) (a, b)
      have hp2 : (nrm ltS ls)[i]? = some (iq (a, b)) := by rw [List.getElem?_map, hp]; rfl
      have hni : iq (a, b) ∉ nrm ltS (ls.take i) := by
        have := not_in_take nd hp2
        rwa [← List.map_take] at this
      have q3 := find_kvL hni
      have q4 := put_kvL hni
      have q5 : nrm ltS (ls.take i) ++ [iq (a, b)] = nrm ltS (ls.take (i + 1)) := by
        rw [List.take_succ_eq_append_getElem hlt, nrm, nrm, List.map_append, List.map_singleton]
        have : ls[i] = (a, b) := by have := List.getElem?_eq_some_iff.mp hp; exact this.2
        rw [this]
      have q6 : (kvL (nrm ltS (ls.take i))).length < 16777216 := by simp only [kvL, List.length_map, List.length_take]; omega
      have q7 : pyOf (lkP (iq (a, b))) = some (.tuple [.str (iq (a, b)).1, .str (iq (a, b)).2]) := by simp only [lkP, pyOf, pyOfs, Option.map_some]
      rw [q5] at q4
      generalize iq (a, b) = q at q2 q3 q4 q7
      obtain ⟨qa, qb⟩ := q
      skip
      clear hp hp2 hni q5
      simp only [sSeq, putAt, lkP] at q1 q2 q3 q4 q7 ⊢
      walk_at "ev"
      exact ⟨_, _, _, rfl⟩)
  refine wp_at loop ?_
  have s1 : (kvL (nrm ltS (ls.take (enumP (lsP ls)).length))).map (·.1) = lsP (nrm ltS ls) := by
    have : (enumP (lsP ls)).length = ls.length := by unfold enumP; simp
    rw [this, List.take_length]
    simp [kvL, lsP]
  have s2 := sortP_ls (nrm ltS ls)
  walk_at "ev"
end PF.k19

/-! text M5 -/
set_option Elab.async false
set_option linter.all false
set_option maxRecDepth 100000
namespace PF.k19
open PySem L2 PySem.Spec PyProof.Rows
local macro_rules | `(tactic| walk_at "ev") => `(tactic| simp only [wp_nx, wp_rt, fin, sIf, sRet_v, sThen, sSet_v, sAsg_v, sExpr_v, sSkip, sBreak, gNm, gTp, gCs, gNl, bVar, bC, bOp, bTest, bAnd, bOr, bNot, bIf, bOfT, bAndV, bOrV, bNil, bCons, bCall, bCB, bTup, bLst, pures, M.bind, M.ret, M.need, M.stuck, List.map_cons, List.map_nil, List.replicate, List.length_cons, List.length_nil, List.length_map, List.cons_append, List.nil_append, List.append_nil, List.getElem?_cons_zero, List.getElem?_cons_succ, List.set_cons_zero, List.set_cons_succ, Option.map_some, Nat.sub_self, Nat.zero_add, Nat.reduceAdd, Nat.reduceSub, List.take_length, Bool.not_true, Bool.not_false, if_true, if_false, ite_true, ite_false, reduceIte, reduceCtorEq, Bool.false_eq_true, oIsi, tyD, tyP, tyA, clsP, clsPs, ansAny, tupOf, lstOf, seqOf, strOf, intOf, dicOf, oLen, bChain, o2b, PF.sizeLine_eq, Nat.reduceLeDiff, Int.reduceLE, Int.reduceLT, decide_true, decide_false, bAlt, mAlt, oAlt, bSeq, bSigns, pureSeq, oIn_v, oInSeq, oInS, oDin, pyD, pyOf, pyOfs, PF.dicKey, oSub_v, oIx, oDget, o2eq, and_self, true_and, and_true, Nx, Gt, Option.isSome_some, Option.isSome_none, isTupD, atI_0, atI_1, PyData.eqv, PyData.eqvAll, shaped_int, Int.reduceBEq, bNeg, Int.reduceNeg, o2sb, bEnum, bSl, bPart, bNoPart, Option.some.injEq, forall_const, lkP, snoc_get, snoc_set, List.take_left, oIsNot, oIs, isNon, bDnew, sDput_v, endPut, dKey_str, dKey_lk, bFld, insOf, List.lookup, bStar, oTuple, putAt, oSorted, colP, *])
local macro_rules | `(tactic| walk_at "st") => `(tactic| (refine wp_seq fun k hk => ?_; walk_at "ev"; refine hk.out _ _ ?_; clear hk k))
local macro_rules | `(tactic| walk_at "start") => `(tactic| (refine defF_wp rfl ?_; simp only [startD, List.map_cons, List.map_nil, List.length_cons, List.length_nil, Nat.zero_add, Nat.reduceAdd, Nat.reduceSub, List.replicate, List.cons_append, List.nil_append, List.append_nil]))

/-! M5: neighbours -/
variable {ans : Value → Value → Option Bool} {C : Addr} {A : AH}
/-- the neighbours of a node, in the sequence of the links -/
def adj (ls : List (Str × Str)) (a : Str) : List Str := ls.flatMap fun p => if p.1 = a then [p.2] else if p.2 = a then [p.1] else []
theorem adj_len (ls : List (Str × Str)) (a : Str) : (adj ls a).length ≤ ls.length := by
  unfold adj
  induction ls with
  | nil => simp
  | cons p r ih =>
    rw [List.flatMap_cons, List.length_append, List.length_cons]
    have : (if p.1 = a then [p.2] else if p.2 = a then [p.1] else []).length ≤ 1 := by
      split
      · simp
      · split <;> simp
    omega
theorem adj_snoc (ls : List (Str × Str)) (p : Str × Str) (a : Str) : adj (ls ++ [p]) a = adj ls a ++ if p.1 = a then [p.2] else if p.2 = a then [p.1] else [] := by
  unfold adj; rw [List.flatMap_append]; simp
theorem mem_adj {ls : List (Str × Str)} {a b : Str} (h : (a, b) ∈ ls) (hne : a ≠ b) : b ∈ adj ls a ∧ a ∈ adj ls b := by
  unfold adj
  constructor
  · exact List.mem_flatMap.mpr ⟨_, h, by simp⟩
  · exact List.mem_flatMap.mpr ⟨_, h, by simp [hne]⟩
theorem adj_mem {ls : List (Str × Str)} {a b : Str} (h : b ∈ adj ls a) : (a, b) ∈ ls ∨ (b, a) ∈ ls := by
  unfold adj at h
  obtain ⟨p, hp, h⟩ := List.mem_flatMap.mp h
  split at h
  · rename_i e
    simp only [List.mem_singleton] at h
    left; rw [← e, h]; exact hp
  · split at h
    · rename_i e
      simp only [List.mem_singleton] at h
      right; rw [← e, h]; exact hp
    · simp at h
def nearP (ns : List Str) (ls : List (Str × Str)) : P := .dic false (kvN ns fun a => .tup (nsP (sortS (adj ls a))))
def fAdj (ls : List (Str × Str)) : Str → P := fun a => .tup (nsP (adj ls a))
theorem fAdj_step {ls : List (Str × Str)} {x y : Str} (hne : x ≠ y) : (fun b => if b = y then P.tup (nsP (adj ls y) ++ [.str x]) else if b = x then P.tup (nsP (adj ls x) ++ [.str y]) else fAdj ls b) = fAdj (ls ++ [(x, y)]) := by
  funext b
  unfold fAdj
  rw [adj_snoc]
  by_cases h1 : b = y
  · subst h1; simp [hne]
  · by_cases h2 : b = x
    · subst h2; simp [hne]
    · have h3 : ¬ x = b := fun e => h2 e.symm
      have h4 : ¬ y = b := fun e => h1 e.symm
      simp [h1, h2, h3, h4]
theorem pairsOf_kv (ns : List Str) (q : P) : pairsOf (ns.map fun a => .tup [.str a, q]) = some (kvN ns fun _ => q) := by
  induction ns with
  | nil => rfl
  | cons a r ih => simp only [List.map_cons, pairsOf, keyOf, ih, kvN]
theorem merge_kv : ∀ {ns : List Str} {acc : List (P × P)} {f : Str → P}, ns.Nodup → (∀ kv ∈ acc, ∀ a ∈ ns, dKey false kv.1 ≠ dKey false (.str a)) → mergeD acc (kvN ns f) = acc ++ kvN ns f
  | [], acc, f, _, _ => by simp [mergeD, kvN]
  | a :: r, acc, f, nd, h => by
    obtain ⟨na, nd'⟩ := List.nodup_cons.mp nd
    have e : mergeD acc (kvN (a :: r) f) = mergeD (putD false acc (.str a) (f a)) (kvN r f) := rfl
    rw [e, putD_new fun kv hkv => h kv hkv a List.mem_cons_self, merge_kv nd']
    · simp [kvN]
    · intro kv hkv b hb
      rcases List.mem_append.mp hkv with hkv | hkv
      · exact h kv hkv b (List.mem_cons_of_mem _ hb)
      · simp only [List.mem_singleton] at hkv
        subst hkv
        simp only [dKey_str, ne_eq, Option.some.injEq, List.cons.injEq, Sum.inr.injEq, and_true]
        intro e; subst e; exact na hb
theorem pures_map (xs : List P) : pures (xs.map D.p) = some xs := by
  induction xs with
  | nil => rfl
  | cons x r ih => simp only [List.map_cons, pures, ih, Option.map_some]
theorem pures_snoc (xs : List P) (y : P) : pures (xs.map D.p ++ [.p y]) = some (xs ++ [y]) := by
  have := pures_map (xs ++ [y])
  rwa [List.map_append] at this
theorem snoc_get2 {α : Type} (A : List α) (x y : α) : (A ++ [x] ++ [y])[A.length]? = some x := by simp
local macro_rules | `(tactic| walk_at "ev") => `(tactic| simp only [wp_nx, wp_rt, fin, sIf, sRet_v, sThen, sSet_v, sAsg_v, sExpr_v, sSkip, sBreak, gNm, gTp, gCs, gNl, bVar, bC, bOp, bTest, bAnd, bOr, bNot, bIf, bOfT, bAndV, bOrV, bNil, bCons, bCall, bCB, bTup, bLst, pures, M.bind, M.ret, M.need, M.stuck, List.map_cons, List.map_nil, List.replicate, List.length_cons, List.length_nil, List.length_map, List.cons_append, List.nil_append, List.append_nil, List.getElem?_cons_zero, List.getElem?_cons_succ, List.set_cons_zero, List.set_cons_succ, Option.map_some, Nat.sub_self, Nat.zero_add, Nat.reduceAdd, Nat.reduceSub, List.take_length, Bool.not_true, Bool.not_false, if_true, if_false, ite_true, ite_false, reduceIte, reduceCtorEq, Bool.false_eq_true, oIsi, tyD, tyP, tyA, clsP, clsPs, ansAny, tupOf, lstOf, seqOf, strOf, intOf, dicOf, oLen, bChain, o2b, PF.sizeLine_eq, Nat.reduceLeDiff, Int.reduceLE, Int.reduceLT, decide_true, decide_false, bAlt, mAlt, oAlt, bSeq, bSigns, pureSeq, oIn_v, oInSeq, oInS, oDin, pyD, pyOf, pyOfs, PF.dicKey, oSub_v, oIx, oDget, o2eq, and_self, true_and, and_true, Nx, Gt, Option.isSome_some, Option.isSome_none, isTupD, atI_0, atI_1, PyData.eqv, PyData.eqvAll, shaped_int, Int.reduceBEq, bNeg, Int.reduceNeg, o2sb, bEnum, bSl, bPart, bNoPart, Option.some.injEq, forall_const, lkP, snoc_get, snoc_set, List.take_left, oIsNot, oIs, isNon, bDnew, sDput_v, endPut, dKey_str, dKey_lk, bFld, insOf, List.lookup, bStar, oTuple, putAt, oSorted, colP, pures_snoc, snoc_get2, *])
theorem near_v {ns : List Str} {ls : List (Str × Str)} (nd : ns.Nodup) (h60 : ns.length ≤ 1000) (hl : ∀ p ∈ ls, p.1 ∈ ns ∧ p.2 ∈ ns ∧ p.1 ≠ p.2) (h120 : ls.length ≤ 1000) :
    F_neighbours_by_node [.p (.tup (nsP ns)), .p (.tup (lsP ls))] A = some (.val (.p (nearP ns ls)) A) := by
  have lc : (bLc (bAlt (bSeq (bVar 0)) (bSigns (bVar 0))) (gNm 5) bYes (bTup (bCons (bVar 5) (bCons (bTup bNil) bNil))) [5]) [some (.p (.tup (nsP ns))), some (.p (.tup (lsP ls))), none, none, none, none] A = some (.val (.p (.lst ((nsP ns).map fun x => .tup [x, .tup []]))) A) := by
    refine bLc_map (xs := nsP ns) _ (by walk_at "ev") (by rw [PF.sizeLine_eq, List.length_map]; omega) fun x _ acc => ⟨_, rfl, ?_⟩
    simp only [wipeD]
    walk_at "ev"
  rw [List.map_map] at lc
  have po := pairsOf_kv ns (.tup [])
  have me : mergeD [] (kvN ns fun _ => .tup []) = kvN ns (fAdj []) := by
    rw [merge_kv nd (by intro kv h; cases h)]; rfl
  unfold F_neighbours_by_node B_neighbours_by_node
  walk_at "start"
  refine wp_seq fun k hk => ?_
  simp only [sSet, sAsg, sThen, bCB, bCons, M.bind, lc, bNil, M.ret, oDictP, lstOf, po, me, gNm, wp_nx, Function.comp_def]
  refine hk.out _ _ ?_
  clear hk k lc po me
  simp only [List.set_cons_succ, List.set_cons_zero]
  have it : (bSeq (bVar 1)) [some (.p (.tup (nsP ns))), some (.p (.tup (lsP ls))), some (.ref A.length), none, none, none] (A ++ [some (.dic false (kvN ns (fAdj [])))]) = some (.val (lsP ls) (A ++ [some (.dic false (kvN ns (fAdj [])))])) := by walk_at "ev"
  obtain ⟨σ', A', loop, ⟨v, w, u, rfl⟩, rfl⟩ := sFor_inv (g := (gTp 2 (gCs (gNm 3) (gCs (gNm 4) gNl))))
    (b := (sSeq (sDput (bVar 2) (bVar 3) (bTup (bStar (bOp oSub (bVar 2) (bVar 3)) (bCons (bVar 4) bNil))))
      (sDput (bVar 2) (bVar 4) (bTup (bStar (bOp oSub (bVar 2) (bVar 4)) (bCons (bVar 3) bNil))))))
    (fun i σ B => (∃ v w u : Option D, σ = [some (.p (.tup (nsP ns))), some (.p (.tup (lsP ls))), some (.ref A.length), v, w, u]) ∧ B = A ++ [some (.dic false (kvN ns (fAdj (ls.take i))))]) it ⟨⟨_, _, _, rfl⟩, rfl⟩ (by
      rintro i x σ B hx ⟨⟨v, w, u, rfl⟩, rfl⟩
      rw [List.getElem?_map] at hx
      cases e : ls[i]? with
      | none => rw [e] at hx; cases hx
      | some p =>
        rw [e] at hx
        obtain rfl := Option.some.inj hx
        obtain ⟨a, b⟩ := p
        have hlt := (List.getElem?_eq_some_iff.mp e).1
        obtain ⟨ma, mb, hne⟩ := hl _ (List.mem_of_getElem? e)
        simp only at ma mb hne
        have q1 : findD false (kvN ns (fAdj (ls.take i))) (.str a) = some (fAdj (ls.take i) a) := by rw [find_kvN, if_pos ma]
        have q2 : putD false (kvN ns (fAdj (ls.take i))) (.str a) (.tup (nsP (adj (ls.take i) a) ++ [.str b])) = kvN ns fun c => if c = a then (.tup (nsP (adj (ls.take i) a) ++ [.str b])) else fAdj (ls.take i) c := put_kvN ma _
        have q3 : findD false (kvN ns fun c => if c = a then (.tup (nsP (adj (ls.take i) a) ++ [.str b])) else fAdj (ls.take i) c) (.str b) = some (fAdj (ls.take i) b) := by rw [find_kvN, if_pos mb, if_neg (Ne.symm hne)]
        have q4 : putD false (kvN ns fun c => if c = a then (.tup (nsP (adj (ls.take i) a) ++ [.str b])) else fAdj (ls.take i) c) (.str b) (.tup (nsP (adj (ls.take i) b) ++ [.str a])) = kvN ns (fAdj (ls.take i ++ [(a, b)])) := by
          rw [put_kvN mb, fAdj_step hne]
        have q5 : ls.take i ++ [(a, b)] = ls.take (i + 1) := by
          rw [List.take_succ_eq_append_getElem hlt]
          rw [(List.getElem?_eq_some_iff.mp e).2]
        rw [q5] at q4
        have l1 := adj_len (ls.take i) a
        have l2 := adj_len (ls.take i) b
        have l3 : (ls.take i).length ≤ 1000 := by rw [List.length_take]; omega
        have l4 : (nsP (adj (ls.take i) a) ++ [P.str b]).length ≤ 16777216 := by simp; omega
        have l5 : (nsP (adj (ls.take i) b) ++ [P.str a]).length ≤ 16777216 := by simp; omega
        have l6 : ∀ f : Str → P, (kvN ns f).length < 16777216 := fun f => by unfold kvN; rw [List.length_map]; omega
        have hA : ∀ c, fAdj (ls.take i) c = .tup (nsP (adj (ls.take i) c)) := fun _ => rfl
        rw [hA] at q1 q3
        clear e hx it l1 l2 l3 hA q5 hl ma mb hne
        simp only [sSeq, lkP]
        walk_at "ev"
        exact ⟨_, _, _, rfl⟩)
  refine wp_at loop ?_
  have e0 : (lsP ls).length = ls.length := List.length_map ..
  rw [e0, List.take_length]
  clear loop it e0
  have dc : (bDc false (bAlt (bSeq (bVar 0)) (bSigns (bVar 0))) (gNm 5) bYes (bVar 5) (bCB oTuple (bCons (bCB oSorted (bCons (bOp oSub (bVar 2) (bVar 5)) bNil)) bNil)) [5]) [some (.p (.tup (nsP ns))), some (.p (.tup (lsP ls))), some (.ref A.length), v, w, u] (A ++ [some (.dic false (kvN ns (fAdj ls)))]) =
      some (.val (.p (.dic false ((nsP ns).map fun x => (x, match x with | .str a => .tup (nsP (sortS (adj ls a))) | _ => .non)))) (A ++ [some (.dic false (kvN ns (fAdj ls)))])) := by
    refine bDc_map (xs := nsP ns) (fun x => x) (fun x => match x with | .str a => .tup (nsP (sortS (adj ls a))) | _ => .non) (by walk_at "ev") (by rw [PF.sizeLine_eq, List.length_map]; omega) ?_ ?_ ?_
    · intro x hx
      obtain ⟨a, _, rfl⟩ := List.mem_map.mp hx
      rfl
    · rw [List.map_map]
      refine List.Pairwise.map _ ?_ nd
      intro a b hab e
      simp only [Function.comp_apply, dKey_str, Option.some.injEq, List.cons.injEq, Sum.inr.injEq, and_true] at e
      exact hab e
    · intro x hx acc
      obtain ⟨a, ha, rfl⟩ := List.mem_map.mp hx
      have q1 : findD false (kvN ns (fAdj ls)) (.str a) = some (.tup (nsP (adj ls a))) := by rw [find_kvN, if_pos ha]; rfl
      have q2 := sortP_ns (adj ls a)
      refine ⟨_, rfl, ?_, ?_⟩
      · simp only [wipeD]; walk_at "ev"
      · simp only [wipeD]; walk_at "ev"
  rw [List.map_map] at dc
  simp only [Function.comp_def] at dc
  walk_at "ev"
  rfl
end PF.k19

/-! text M6 -/
set_option Elab.async false
set_option linter.all false
set_option maxRecDepth 100000
namespace PF.k19
open PySem L2 PySem.Spec PyProof.Rows

local macro_rules | `(tactic| walk_at "st") => `(tactic| (refine wp_seq fun k hk => ?_; walk_at "ev"; refine hk.out _ _ ?_; clear hk k))
local macro_rules | `(tactic| walk_at "start") => `(tactic| (refine defF_wp rfl ?_; simp only [startD, List.map_cons, List.map_nil, List.length_cons, List.length_nil, Nat.zero_add, Nat.reduceAdd, Nat.reduceSub, List.replicate, List.cons_append, List.nil_append, List.append_nil]))
/-! M6: a net is made -/
theorem snoc_take {α : Type} (A : List α) (x y : α) : (A ++ [y]).take (A ++ [x]).length = A ++ [y] := by
  rw [List.take_of_length_le (by simp)]
theorem n_12 : (("own_nodes" : Str) = "own_links") = False := by simp only [eq_iff_iff, iff_false]; decide +kernel
theorem n_13 : (("own_nodes" : Str) = "own_near") = False := by simp only [eq_iff_iff, iff_false]; decide +kernel
theorem n_23 : (("own_links" : Str) = "own_near") = False := by simp only [eq_iff_iff, iff_false]; decide +kernel
theorem lk_1 (x : P) (r : List (Str × P)) : List.lookup ("own_nodes" : Str) (("own_nodes", x) :: r) = some x := by
  rw [List.lookup_cons]; simp
theorem lk_2 (x : P) (r : List (Str × P)) : List.lookup ("own_links" : Str) (("own_nodes", x) :: r) = List.lookup ("own_links" : Str) r := by
  rw [List.lookup_cons]
  have : (("own_links" : Str) == "own_nodes") = false := by decide +kernel
  rw [this]
theorem lk_22 (x : P) (r : List (Str × P)) : List.lookup ("own_links" : Str) (("own_links", x) :: r) = some x := by
  rw [List.lookup_cons]; simp
theorem lk_3 (x : P) (r : List (Str × P)) : List.lookup ("own_near" : Str) (("own_nodes", x) :: r) = List.lookup ("own_near" : Str) r := by
  rw [List.lookup_cons]
  have : (("own_near" : Str) == "own_nodes") = false := by decide +kernel
  rw [this]
theorem lk_32 (x : P) (r : List (Str × P)) : List.lookup ("own_near" : Str) (("own_links", x) :: r) = List.lookup ("own_near" : Str) r := by
  rw [List.lookup_cons]
  have : (("own_near" : Str) == "own_links") = false := by decide +kernel
  rw [this]
theorem lk_33 (x : P) (r : List (Str × P)) : List.lookup ("own_near" : Str) (("own_near", x) :: r) = some x := by
  rw [List.lookup_cons]; simp
def netF (ns : List Str) (ls : List (Str × Str)) : List (Str × P) := [("own_nodes", .tup (nsP ns)), ("own_links", .tup (lsP ls)), ("own_near", nearP ns ls)]
/-- what a net is made of -/
structure Ok (ns : List Str) (ls : List (Str × Str)) : Prop where
  nm : ∀ a ∈ ns, Nm a
  nd : ns.Nodup
  n0 : ns ≠ []
  hn : ns.length ≤ 60
  li : ∀ p ∈ ls, p.1 ∈ ns ∧ p.2 ∈ ns ∧ p.1 ≠ p.2
  ld : (nrm ltS ls).Nodup
  hl : ls.length ≤ 120
theorem Ok.mem {ns : List Str} {ls : List (Str × Str)} (o : Ok ns ls) : ∀ p ∈ sortL (nrm ltS ls), p.1 ∈ sortS ns ∧ p.2 ∈ sortS ns ∧ p.1 ≠ p.2 := by
  intro p hp
  obtain ⟨q, hq, rfl⟩ := nrm_mem ((sortL_perm _).mem_iff.mp hp)
  obtain ⟨h1, h2, h3⟩ := o.li q hq
  have k1 := (sortS_perm ns).mem_iff.mpr h1
  have k2 := (sortS_perm ns).mem_iff.mpr h2
  rcases inq_cases ltS q with e | e <;> rw [e]
  · exact ⟨k1, k2, h3⟩
  · exact ⟨k2, k1, Ne.symm h3⟩
theorem Ok.lens {ns : List Str} {ls : List (Str × Str)} (o : Ok ns ls) : (sortS ns).length = ns.length ∧ (sortL (nrm ltS ls)).length = ls.length :=
  ⟨(sortS_perm ns).length_eq, by rw [(sortL_perm _).length_eq, List.length_map]⟩
local macro_rules | `(tactic| walk_at "ev") => `(tactic| simp only [wp_nx, wp_rt, fin, sIf, sRet_v, sThen, sSet_v, sAsg_v, sExpr_v, sSkip, sBreak, gNm, gTp, gCs, gNl, bVar, bC, bOp, bTest, bAnd, bOr, bNot, bIf, bOfT, bAndV, bOrV, bNil, bCons, bCall, bCB, bTup, bLst, pures, M.bind, M.ret, M.need, M.stuck, List.map_cons, List.map_nil, List.replicate, List.length_cons, List.length_nil, List.length_map, List.cons_append, List.nil_append, List.append_nil, List.getElem?_cons_zero, List.getElem?_cons_succ, List.set_cons_zero, List.set_cons_succ, Option.map_some, Nat.sub_self, Nat.zero_add, Nat.reduceAdd, Nat.reduceSub, List.take_length, Bool.not_true, Bool.not_false, if_true, if_false, ite_true, ite_false, reduceIte, reduceCtorEq, Bool.false_eq_true, oIsi, tyD, tyP, tyA, clsP, clsPs, ansAny, tupOf, lstOf, seqOf, strOf, intOf, dicOf, oLen, bChain, o2b, PF.sizeLine_eq, Nat.reduceLeDiff, Int.reduceLE, Int.reduceLT, decide_true, decide_false, bAlt, mAlt, oAlt, bSeq, bSigns, pureSeq, oIn_v, oInSeq, oInS, oDin, pyD, pyOf, pyOfs, PF.dicKey, oSub_v, oIx, oDget, o2eq, and_self, true_and, and_true, Nx, Gt, Option.isSome_some, Option.isSome_none, isTupD, atI_0, atI_1, PyData.eqv, PyData.eqvAll, shaped_int, Int.reduceBEq, bNeg, Int.reduceNeg, o2sb, bEnum, bSl, bPart, bNoPart, Option.some.injEq, forall_const, lkP, snoc_get, snoc_set, List.take_left, oIsNot, oIs, isNon, bDnew, sDput_v, endPut, dKey_str, dKey_lk, bFld, insOf, bStar, oTuple, putAt, oSorted, colP, pures_snoc, snoc_get2, snoc_take, bCV, bFrz, frzD, sFld_v, endFld, putFP, List.mem_cons, List.not_mem_nil, or_false, true_or, or_true, lk_1, lk_2, lk_22, lk_3, lk_32, lk_33, n_12, n_13, n_23, Nat.reduceLT, bMk, bMkV, mkD, Option.isSome_some, *])
variable {ans : Value → Value → Option Bool} {C : Addr} {A : AH}

theorem init_t (h : An ans C) {ns : List Str} {ls : List (Str × Str)} (o : Ok ns ls) : F_Net___init__ C ans [.ref A.length, .p (.tup (nsP ns)), .p (.lst (lsP ls))] (A ++ [some (.ins C [])]) =
    some (.val (.p .non) (A ++ [some (.ins C (netF (sortS ns) (sortL (nrm ltS ls))))])) := by
  have w := fun (B : AH) => want_names_t (A := B) h o.nm o.nd o.n0 o.hn
  have pa := fun (B : AH) => pairs_of_l (A := B) h o.nm o.li o.ld o.hl
  have nv := fun (B : AH) => near_v (A := B) ((sortS_perm ns).nodup_iff.mpr o.nd) (by rw [o.lens.1]; have := o.hn; omega) o.mem (by rw [o.lens.2]; have := o.hl; omega)
  have b1 : decide ((60 : Int) < (ns.length : Int)) = false := decide_eq_false (by have := o.hn; omega)
  have b2 : decide ((120 : Int) < ((sortL (nrm ltS ls)).length : Int)) = false := decide_eq_false (by rw [o.lens.2]; have := o.hl; omega)
  have s1 := sortP_ns ns
  have dc : ∀ B : AH, (bDc false (bAlt (bSeq (bVar 1)) (bSigns (bVar 1))) (gNm 4) bYes (bVar 4) (bC (.bl true)) [4]) [some (.ref A.length), some (.p (.tup (nsP ns))), some (.p (.lst (lsP ls))), none, none] B = some (.val (.p (.dic false (kvN ns fun _ => .bl true))) B) := fun B => by
    have e := bDc_map (t := false) (f := bAlt (bSeq (bVar 1)) (bSigns (bVar 1))) (g := gNm 4) (tk := bVar 4) (tv := bC (.bl true)) (vs := [4]) (σ := [some (.ref A.length), some (.p (.tup (nsP ns))), some (.p (.lst (lsP ls))), none, none]) (A := B) (A1 := B) (xs := nsP ns) (fun x => x) (fun _ => .bl true) (by walk_at "ev") (by rw [PF.sizeLine_eq, List.length_map]; have := o.hn; omega) (by
        intro x hx
        obtain ⟨a, _, rfl⟩ := List.mem_map.mp hx
        rfl) (by
        rw [List.map_map]
        refine List.Pairwise.map _ ?_ o.nd
        intro a b hab e
        simp only [Function.comp_apply, dKey_str, Option.some.injEq, List.cons.injEq, Sum.inr.injEq, and_true] at e
        exact hab e) (by
        intro x hx acc
        exact ⟨_, rfl, rfl, rfl⟩)
    rw [e, List.map_map]
    rfl
  unfold F_Net___init__ B_Net___init__
  walk_at "start"
  walk_at "st"
  walk_at "st"
  walk_at "st"
  walk_at "st"
  walk_at "st"
  walk_at "st"
  clear dc w pa
  walk_at "ev"
  rfl

theorem init_l (h : An ans C) {ns : List Str} {ls : List (Str × Str)} (o : Ok ns ls) : F_Net___init__ C ans [.ref A.length, .p (.lst (nsP ns)), .p (.lst (lsP ls))] (A ++ [some (.ins C [])]) =
    some (.val (.p .non) (A ++ [some (.ins C (netF (sortS ns) (sortL (nrm ltS ls))))])) := by
  have w := fun (B : AH) => want_names_l (A := B) h o.nm o.nd o.n0 o.hn
  have pa := fun (B : AH) => pairs_of_l (A := B) h o.nm o.li o.ld o.hl
  have nv := fun (B : AH) => near_v (A := B) ((sortS_perm ns).nodup_iff.mpr o.nd) (by rw [o.lens.1]; have := o.hn; omega) o.mem (by rw [o.lens.2]; have := o.hl; omega)
  have b1 : decide ((60 : Int) < (ns.length : Int)) = false := decide_eq_false (by have := o.hn; omega)
  have b2 : decide ((120 : Int) < ((sortL (nrm ltS ls)).length : Int)) = false := decide_eq_false (by rw [o.lens.2]; have := o.hl; omega)
  have s1 := sortP_ns ns
  have dc : ∀ B : AH, (bDc false (bAlt (bSeq (bVar 1)) (bSigns (bVar 1))) (gNm 4) bYes (bVar 4) (bC (.bl true)) [4]) [some (.ref A.length), some (.p (.lst (nsP ns))), some (.p (.lst (lsP ls))), none, none] B = some (.val (.p (.dic false (kvN ns fun _ => .bl true))) B) := fun B => by
    have e := bDc_map (t := false) (f := bAlt (bSeq (bVar 1)) (bSigns (bVar 1))) (g := gNm 4) (tk := bVar 4) (tv := bC (.bl true)) (vs := [4]) (σ := [some (.ref A.length), some (.p (.lst (nsP ns))), some (.p (.lst (lsP ls))), none, none]) (A := B) (A1 := B) (xs := nsP ns) (fun x => x) (fun _ => .bl true) (by walk_at "ev") (by rw [PF.sizeLine_eq, List.length_map]; have := o.hn; omega) (by
        intro x hx
        obtain ⟨a, _, rfl⟩ := List.mem_map.mp hx
        rfl) (by
        rw [List.map_map]
        refine List.Pairwise.map _ ?_ o.nd
        intro a b hab e
        simp only [Function.comp_apply, dKey_str, Option.some.injEq, List.cons.injEq, Sum.inr.injEq, and_true] at e
        exact hab e) (by
        intro x hx acc
        exact ⟨_, rfl, rfl, rfl⟩)
    rw [e, List.map_map]
    rfl
  unfold F_Net___init__ B_Net___init__
  walk_at "start"
  walk_at "st"
  walk_at "st"
  walk_at "st"
  walk_at "st"
  walk_at "st"
  walk_at "st"
  clear dc w pa
  walk_at "ev"
  rfl

theorem mk_t (h : An ans C) {ns : List Str} {ls : List (Str × Str)} (o : Ok ns ls) : mkD C (FR_Net___init__ C ans) [.p (.tup (nsP ns)), .p (.lst (lsP ls))] A = some (.val (.ref A.length) (A ++ [some (.ins C (netF (sortS ns) (sortL (nrm ltS ls))))])) := by
  unfold mkD FR_Net___init__
  simp only [List.append_nil, List.map_nil, init_t h o]
theorem mk_l (h : An ans C) {ns : List Str} {ls : List (Str × Str)} (o : Ok ns ls) : mkD C (FR_Net___init__ C ans) [.p (.lst (nsP ns)), .p (.lst (lsP ls))] A = some (.val (.ref A.length) (A ++ [some (.ins C (netF (sortS ns) (sortL (nrm ltS ls))))])) := by
  unfold mkD FR_Net___init__
  simp only [List.append_nil, List.map_nil, init_l h o]
end PF.k19

/-! text M7 -/
set_option Elab.async false
set_option linter.all false
set_option maxRecDepth 100000
namespace PF.k19
open PySem L2 PySem.Spec PyProof.Rows

local macro_rules | `(tactic| walk_at "st") => `(tactic| (refine wp_seq fun k hk => ?_; walk_at "ev"; refine hk.out _ _ ?_; clear hk k))
local macro_rules | `(tactic| walk_at "start") => `(tactic| (refine defF_wp rfl ?_; simp only [startD, List.map_cons, List.map_nil, List.length_cons, List.length_nil, Nat.zero_add, Nat.reduceAdd, Nat.reduceSub, List.replicate, List.cons_append, List.nil_append, List.append_nil]))
/-! M7: paths, rings, full nets, equality -/
theorem oSl_tup_from1 {xs : List P} {A : AH} : oSl (.p (.tup xs)) (some 1) none A = some (.val (.p (.tup (xs.drop 1))) A) := oSl_tup_from (k := 1)
theorem oSl_tup_to1 {xs : List P} {A : AH} : oSl (.p (.tup xs)) none (some 1) A = some (.val (.p (.tup (xs.take 1))) A) := oSl_tup_to (k := 1)
theorem eqvAll_ns : ∀ ns : List Str, PyData.eqvAll (ns.map PyData.str) (ns.map PyData.str) = true
  | [] => rfl
  | a :: r => by simp only [List.map_cons, PyData.eqvAll, PyData.eqv, eqvAll_ns r, beq_self_eq_true, Bool.and_self]
theorem eqvAll_ls : ∀ ls : List (Str × Str), PyData.eqvAll (ls.map lkD) (ls.map lkD) = true
  | [] => rfl
  | a :: r => by simp only [List.map_cons, PyData.eqvAll, PyData.eqv, lkD, eqvAll_ls r, beq_self_eq_true, Bool.and_self]
theorem lkn_has (x y z : P) : List.lookup ("has_link" : Str) [("own_nodes", x), ("own_links", y), ("own_near", z)] = none := by
  have h1 : (("has_link" : Str) == "own_nodes") = false := by decide +kernel
  have h2 : (("has_link" : Str) == "own_links") = false := by decide +kernel
  have h3 : (("has_link" : Str) == "own_near") = false := by decide +kernel
  simp only [List.lookup_cons, h1, h2, h3, List.lookup_nil]
/-- the net of some nodes and links -/
def net (C : Addr) (ns : List Str) (ls : List (Str × Str)) : P := .obj C (netF (sortS ns) (sortL (nrm ltS ls)))
theorem net_eq (C : Addr) {ns ms : List Str} {ls ks : List (Str × Str)} (h : ns.Perm ms) (h2 : (nrm ltS ls).Perm (nrm ltS ks)) : net C ns ls = net C ms ks := by
  unfold net; rw [sortS_eq h, sortL_eq h2]
structure Ns (ns : List Str) : Prop where
  nm : ∀ a ∈ ns, Nm a
  nd : ns.Nodup
  n0 : ns ≠ []
  h7 : ns.length ≤ 7
theorem pathL_len {α : Type} : ∀ xs : List α, (pathL xs).length ≤ xs.length
  | [] => Nat.zero_le _
  | [x] => Nat.zero_le _
  | x :: y :: r => by
    have := pathL_len (y :: r)
    simp only [pathL, List.length_cons] at this ⊢
    omega
theorem fullL_len {α : Type} : ∀ xs : List α, (fullL xs).length ≤ xs.length * xs.length
  | [] => Nat.zero_le _
  | x :: r => by
    have := fullL_len r
    simp only [fullL, List.length_append, List.length_map, List.length_cons]
    have e : (r.length + 1) * (r.length + 1) = r.length * r.length + r.length + r.length + 1 := by
      rw [Nat.add_mul, Nat.mul_add]; omega
    omega
theorem Ns.path {ns : List Str} (n : Ns ns) : Ok ns (pathL ns) where
  nm := n.nm
  nd := n.nd
  n0 := n.n0
  hn := by have := n.h7; omega
  li := fun p hp => ⟨(mem_pathL hp).1, (mem_pathL hp).2, pathL_ne n.nd hp⟩
  ld := pathL_nrm_nodup ltS_ord n.nd
  hl := by have := pathL_len ns; have := n.h7; omega
theorem Ns.ring {ns : List Str} (n : Ns ns) (h3 : 3 ≤ ns.length) : Ok ns (ringL ns) where
  nm := n.nm
  nd := n.nd
  n0 := n.n0
  hn := by have := n.h7; omega
  li := fun p hp => ⟨(mem_ringL hp).1, (mem_ringL hp).2, ringL_ne n.nd (by omega) hp⟩
  ld := ringL_nrm_nodup ltS_ord n.nd h3
  hl := by
    have := pathL_len (ns ++ ns.take 1)
    have := n.h7
    simp only [List.length_append, List.length_take] at *
    unfold ringL
    omega
theorem Ns.full {ns : List Str} (n : Ns ns) : Ok ns (fullL ns) where
  nm := n.nm
  nd := n.nd
  n0 := n.n0
  hn := by have := n.h7; omega
  li := fun p hp => ⟨(fullL_mem hp).1, (fullL_mem hp).2, fullL_ne n.nd hp⟩
  ld := fullL_nrm_nodup ltS_ord n.nd
  hl := by
    have h1 := fullL_len ns
    have h2 := n.h7
    have h3 : ns.length * ns.length ≤ 7 * 7 := Nat.mul_le_mul h2 h2
    omega
theorem zipP_path : ∀ ns : List Str, zipP (nsP ns) ((nsP ns).drop 1) = lsP (pathL ns)
  | [] => rfl
  | [a] => rfl
  | a :: b :: r => by
    have := zipP_path (b :: r)
    simp only [nsP, List.map_cons, List.drop_succ_cons, List.drop_zero, pathL, lsP, zipP, List.zipWith_cons_cons] at this ⊢
    rw [this]; rfl
theorem zipP_ring (a : Str) : ∀ (b : Str) (r : List Str), zipP (nsP (b :: r)) (nsP r ++ [.str a]) = lsP (pathL (b :: r ++ [a]))
  | b, [] => rfl
  | b, c :: r => by
    have := zipP_ring a c r
    simp only [nsP, List.map_cons, List.cons_append, pathL, lsP, zipP, List.zipWith_cons_cons] at this ⊢
    rw [this]; rfl
def eG (xs : List P) (x : P) : List P := match x with
  | .tup [.int i, _] => xs.drop (i.toNat + 1)
  | _ => []
def eF (x y : P) : P := match x with
  | .tup [_, a] => P.tup [a, y]
  | _ => .non
theorem enum_full : ∀ (r pre : List Str), ((nsP r).mapIdx fun i x => P.tup [.int ((i + pre.length : Nat) : Int), x]).flatMap (fun x => (eG (nsP (pre ++ r)) x).map (eF x)) = lsP (fullL r)
  | [], pre => rfl
  | a :: r, pre => by
    have ih := enum_full r (pre ++ [a])
    show ((P.str a :: nsP r).mapIdx _).flatMap _ = _
    rw [List.mapIdx_cons, List.flatMap_cons]
    have e : (fun i x => P.tup [.int ((i + 1 + pre.length : Nat) : Int), x]) = fun i x => P.tup [.int ((i + (pre ++ [a]).length : Nat) : Int), x] := by
      funext i x
      have : i + 1 + pre.length = i + (pre ++ [a]).length := by simp; omega
      rw [this]
    rw [e]
    rw [List.append_assoc] at ih
    rw [show pre ++ a :: r = pre ++ ([a] ++ r) from rfl, ih]
    simp only [fullL, lsP, List.map_append, Nat.zero_add]
    congr 1
    have : (nsP (pre ++ ([a] ++ r))).drop (pre.length + 1) = nsP r := by
      rw [nsP, ← List.map_drop]
      congr 1
      rw [← List.append_assoc, show pre.length + 1 = (pre ++ [a]).length by simp, List.drop_left]
    simp only [eG, Int.toNat_natCast]
    have this2 : List.drop (pre.length + 1) (List.map P.str pre ++ (List.map P.str [a] ++ List.map P.str r)) = nsP r := by rw [← List.map_append, ← List.map_append]; exact this
    rw [this2]
    simp only [nsP, List.map_map]
    rfl
theorem enum_full0 (ns : List Str) : (enumP (nsP ns)).flatMap (fun x => (eG (nsP ns) x).map (eF x)) = lsP (fullL ns) := enum_full ns []
local macro_rules | `(tactic| walk_at "ev") => `(tactic| simp only [wp_nx, wp_rt, fin, sIf, sRet_v, sThen, sSet_v, sAsg_v, sExpr_v, sSkip, sBreak, gNm, gTp, gCs, gNl, bVar, bC, bOp, bTest, bAnd, bOr, bNot, bIf, bOfT, bAndV, bOrV, bNil, bCons, bCall, bCB, bTup, bLst, pures, M.bind, M.ret, M.need, M.stuck, List.map_cons, List.map_nil, List.replicate, List.length_cons, List.length_nil, List.length_map, List.cons_append, List.nil_append, List.append_nil, List.getElem?_cons_zero, List.getElem?_cons_succ, List.set_cons_zero, List.set_cons_succ, Option.map_some, Nat.sub_self, Nat.zero_add, Nat.reduceAdd, Nat.reduceSub, List.take_length, Bool.not_true, Bool.not_false, if_true, if_false, ite_true, ite_false, reduceIte, reduceCtorEq, Bool.false_eq_true, oIsi, tyD, tyP, tyA, clsP, clsPs, ansAny, tupOf, lstOf, seqOf, strOf, intOf, dicOf, oLen, bChain, o2b, PF.sizeLine_eq, Nat.reduceLeDiff, Int.reduceLE, Int.reduceLT, decide_true, decide_false, bAlt, mAlt, oAlt, bSeq, bSigns, pureSeq, oIn_v, oInSeq, oInS, oDin, pyD, pyOf, pyOfs, PF.dicKey, oSub_v, oIx, oDget, o2eq, and_self, true_and, and_true, Nx, Gt, Option.isSome_some, Option.isSome_none, isTupD, atI_0, atI_1, PyData.eqv, PyData.eqvAll, shaped_int, Int.reduceBEq, bNeg, Int.reduceNeg, o2sb, bEnum, bSl, bPart, bNoPart, Option.some.injEq, forall_const, lkP, snoc_get, snoc_set, List.take_left, oIsNot, oIs, isNon, bDnew, sDput_v, endPut, dKey_str, dKey_lk, bFld, insOf, bStar, oTuple, putAt, oSorted, colP, pures_snoc, snoc_get2, snoc_take, bCV, bFrz, frzD, sFld_v, endFld, putFP, List.mem_cons, List.not_mem_nil, or_false, true_or, or_true, lk_1, lk_2, lk_22, lk_3, lk_32, lk_33, n_12, n_13, n_23, Nat.reduceLT, bMk, bMkV, bMeth, oListZip, oSl_tup_from1, oSl_tup_to1, oPlus_v, oAdd, oCatL, oCatT, frozen, eqvAll_ns, eqvAll_ls, List.map_id, lkn_has, bCM, bSM, List.drop_succ_cons, List.drop_zero, List.take_succ_cons, List.take_zero, *])
variable {ans : Value → Value → Option Bool} {C : Addr} {A : AH}
theorem path_v (h : An ans C) {ns : List Str} (n : Ns ns) : F_Net_path C ans [.p (.rf C), .p (.tup (nsP ns))] A = some (.val (.p (net C ns (pathL ns))) A) := by
  have w := want_names_t (A := A) h n.nm n.nd n.n0 (by have := n.h7; omega)
  have m := mk_t (A := A) h n.path
  have z := zipP_path ns
  unfold F_Net_path B_Net_path
  walk_at "start"
  walk_at "st"
  walk_at "ev"
  rfl
theorem ring_v (h : An ans C) {ns : List Str} (n : Ns ns) (h3 : 3 ≤ ns.length) : F_Net_ring C ans [.p (.rf C), .p (.tup (nsP ns))] A = some (.val (.p (net C ns (ringL ns))) A) := by
  have w := want_names_t (A := A) h n.nm n.nd n.n0 (by have := n.h7; omega)
  have m := mk_t (A := A) h (n.ring h3)
  have b : decide ((ns.length : Int) < 3) = false := decide_eq_false (by omega)
  match ns, h3, n, w, m, b with
  | x :: y :: r, h3, n, w, m, b =>
    have z : zipP (nsP (x :: y :: r)) (nsP (y :: r) ++ [.str x]) = lsP (ringL (x :: y :: r)) := zipP_ring x x (y :: r)
    have sl : (nsP (y :: r) ++ [P.str x]).length ≤ 16777216 := by have := n.h7; simp at this ⊢; omega
    have sl2 : r.length + 1 + 1 ≤ 16777216 := by have := n.h7; simp at this ⊢; omega
    have hl : ((nsP r).length + 1) + 1 ≤ 16777216 := by have := n.h7; simp at this ⊢; omega
    simp only [nsP, List.map_cons, List.cons_append, List.length_cons] at z w m b sl sl2 hl
    unfold F_Net_ring B_Net_ring
    walk_at "start"
    walk_at "st"
    walk_at "st"
    walk_at "ev"
    rfl
theorem full_v (h : An ans C) {ns : List Str} (n : Ns ns) : F_Net_full C ans [.p (.rf C), .p (.tup (nsP ns))] A = some (.val (.p (net C ns (fullL ns))) A) := by
  have w := want_names_t (A := A) h n.nm n.nd n.n0 (by have := n.h7; omega)
  have m := mk_t (A := A) h n.full
  have b1 : decide ((60 : Int) < (ns.length : Int)) = false := decide_eq_false (by have := n.h7; omega)
  have ef := enum_full0 ns
  have lc : (bLc2 (bEnum (bCons (bVar 1) bNil)) (gTp 2 (gCs (gNm 2) (gCs (gNm 3) gNl))) bYes (bAlt (bSeq (bSl (bVar 1) (bPart (bOp oPlus (bVar 2) (bC (.int 1)))) bNoPart)) (bSigns (bSl (bVar 1) (bPart (bOp oPlus (bVar 2) (bC (.int 1)))) bNoPart))) (gNm 4) bYes (bTup (bCons (bVar 3) (bCons (bVar 4) bNil))) [2, 3, 4] [4])
      [some (.p (.rf C)), some (.p (.tup (nsP ns))), none, none, none] A = some (.val (.p (.lst (lsP (fullL ns)))) A) := by
    have e := bLc2_map (f := bEnum (bCons (bVar 1) bNil)) (g := gTp 2 (gCs (gNm 2) (gCs (gNm 3) gNl))) (f1 := bAlt (bSeq (bSl (bVar 1) (bPart (bOp oPlus (bVar 2) (bC (.int 1)))) bNoPart)) (bSigns (bSl (bVar 1) (bPart (bOp oPlus (bVar 2) (bC (.int 1)))) bNoPart))) (g1 := gNm 4) (te := bTup (bCons (bVar 3) (bCons (bVar 4) bNil))) (vs := [2, 3, 4]) (vs1 := [4])
      (σ := [some (.p (.rf C)), some (.p (.tup (nsP ns))), none, none, none]) (A := A) (A1 := A) (xs := enumP (nsP ns)) (eG (nsP ns)) eF (by walk_at "ev") (by
        rw [PF.sizeLine_eq, ef, List.length_map]
        have := (n.full).hl; omega) (by
        intro x hx acc
        obtain ⟨i, hi⟩ := List.getElem?_of_mem hx
        obtain ⟨a, ha, rfl⟩ := enum_ns hi
        have sl := oSl_tup_from (xs := nsP ns) (k := i + 1) (A := A ++ [some (.lst acc)])
        have sl : oSl (.p (.tup (nsP ns))) (some ((i : Int) + 1)) none (A ++ [some (.lst acc)]) = some (.val (.p (.tup ((nsP ns).drop (i + 1)))) (A ++ [some (.lst acc)])) := sl
        refine ⟨_, rfl, ?_, ?_⟩
        · simp only [wipeD, eG, Int.toNat_natCast]
          clear hi hx ef m w
          walk_at "ev"
        · intro y hy acc
          refine ⟨_, rfl, ?_⟩
          simp only [wipeD, eF]
          walk_at "ev")
    rw [e, ef]
  clear ef
  unfold F_Net_full B_Net_full
  walk_at "start"
  walk_at "st"
  walk_at "st"
  walk_at "ev"
  rfl
end PF.k19

/-! text M8 -/
set_option Elab.async false
set_option linter.all false
set_option maxRecDepth 100000
namespace PF.k19
open PySem L2 PySem.Spec PyProof.Rows

local macro_rules | `(tactic| walk_at "st") => `(tactic| (refine wp_seq fun k hk => ?_; walk_at "ev"; refine hk.out _ _ ?_; clear hk k))
local macro_rules | `(tactic| walk_at "start") => `(tactic| (refine defF_wp rfl ?_; simp only [startD, List.map_cons, List.map_nil, List.length_cons, List.length_nil, Nat.zero_add, Nat.reduceAdd, Nat.reduceSub, List.replicate, List.cons_append, List.nil_append, List.append_nil]))
/-! M8: the methods of nets -/
local macro_rules | `(tactic| walk_at "ev") => `(tactic| simp only [wp_nx, wp_rt, fin, sIf, sRet_v, sThen, sSet_v, sAsg_v, sExpr_v, sSkip, sBreak, gNm, gTp, gCs, gNl, bVar, bC, bOp, bTest, bAnd, bOr, bNot, bIf, bOfT, bAndV, bOrV, bNil, bCons, bCall, bCB, bTup, bLst, pures, M.bind, M.ret, M.need, M.stuck, List.map_cons, List.map_nil, List.replicate, List.length_cons, List.length_nil, List.length_map, List.cons_append, List.nil_append, List.append_nil, List.getElem?_cons_zero, List.getElem?_cons_succ, List.set_cons_zero, List.set_cons_succ, Option.map_some, Nat.sub_self, Nat.zero_add, Nat.reduceAdd, Nat.reduceSub, List.take_length, Bool.not_true, Bool.not_false, if_true, if_false, ite_true, ite_false, reduceIte, reduceCtorEq, Bool.false_eq_true, oIsi, tyD, tyP, tyA, clsP, clsPs, ansAny, tupOf, lstOf, seqOf, strOf, intOf, dicOf, oLen, bChain, o2b, PF.sizeLine_eq, Nat.reduceLeDiff, Int.reduceLE, Int.reduceLT, decide_true, decide_false, bAlt, mAlt, oAlt, bSeq, bSigns, pureSeq, oIn_v, oInSeq, oInS, oDin, pyD, pyOf, pyOfs, PF.dicKey, oSub_v, oIx, oDget, o2eq, and_self, true_and, and_true, Nx, Gt, Option.isSome_some, Option.isSome_none, isTupD, atI_0, atI_1, PyData.eqv, PyData.eqvAll, shaped_int, Int.reduceBEq, bNeg, Int.reduceNeg, o2sb, bEnum, bSl, bPart, bNoPart, Option.some.injEq, forall_const, lkP, snoc_get, snoc_set, List.take_left, oIsNot, oIs, isNon, bDnew, sDput_v, endPut, dKey_str, dKey_lk, bFld, insOf, bStar, oTuple, putAt, oSorted, colP, pures_snoc, snoc_get2, snoc_take, bCV, bFrz, frzD, sFld_v, endFld, putFP, List.mem_cons, List.not_mem_nil, or_false, true_or, or_true, lk_1, lk_2, lk_22, lk_3, lk_32, lk_33, n_12, n_13, n_23, Nat.reduceLT, bMk, bMkV, bMeth, oListZip, oSl_tup_from1, oSl_tup_to1, oPlus_v, oAdd, oCatL, oCatT, frozen, eqvAll_ns, eqvAll_ls, List.map_id, lkn_has, bCM, bSM, List.drop_succ_cons, List.drop_zero, List.take_succ_cons, List.take_zero, oList, oOwn, oOwnNe, bProp, valF, lAlt, oLenO, oAll, bDic, bGet2, rIsD, *])
variable {ans : Value → Value → Option Bool} {C : Addr} {A : AH}
theorem nodes_v {ns : List Str} {ls : List (Str × Str)} : F_Net_nodes C [.p (.obj C (netF ns ls))] A = some (.val (.p (.lst (nsP ns))) A) := by
  unfold F_Net_nodes B_Net_nodes netF
  walk_at "start"
  walk_at "ev"
theorem links_v {ns : List Str} {ls : List (Str × Str)} : F_Net_links C [.p (.obj C (netF ns ls))] A = some (.val (.p (.lst (lsP ls))) A) := by
  unfold F_Net_links B_Net_links netF
  walk_at "start"
  walk_at "ev"
theorem size_v {ns : List Str} {ls : List (Str × Str)} : F_Net_size C [.p (.obj C (netF ns ls))] A = some (.val (.p (.int ls.length)) A) := by
  unfold F_Net_size B_Net_size netF
  walk_at "start"
  walk_at "ev"
theorem len_v {ns : List Str} {ls : List (Str × Str)} : F_Net___len__ C [.p (.obj C (netF ns ls))] A = some (.val (.p (.int ns.length)) A) := by
  unfold F_Net___len__ B_Net___len__ netF
  walk_at "start"
  walk_at "ev"
theorem pyOf_nsT (ns : List Str) : pyOf (.tup (nsP ns)) = some (.tuple (ns.map PyData.str)) := by simp only [pyOf, pyOfs_ns, Option.map_some]
theorem pyOf_lsT (ls : List (Str × Str)) : pyOf (.tup (lsP ls)) = some (.tuple (ls.map lkD)) := by simp only [pyOf, pyOfs_ls, Option.map_some]
theorem eq_pp (h : An ans C) {ns : List Str} {ls : List (Str × Str)} (hn : ∀ a ∈ ns, Nm a) (hl : ∀ p ∈ ls, p.1 ∈ ns ∧ p.2 ∈ ns ∧ p.1 ≠ p.2) : F_Net___eq__ C ans [.p (.obj C (netF ns ls)), .p (.obj C (netF ns ls))] A = some (.val (.p (.bl true)) A) := by
  have s1 := shaped_nsT hn
  have s2 := shaped_lsT (ls := ls) fun p hp => ⟨hn _ (hl p hp).1, hn _ (hl p hp).2.1⟩
  have p1 := pyOfs_ns ns
  have p2 := pyOfs_ls ls
  obtain ⟨h1, h2, h3, h4, h5⟩ := h
  unfold F_Net___eq__ B_Net___eq__ netF
  walk_at "start"
  walk_at "ev"
theorem eq_pr (h : An ans C) {ns : List Str} {ls : List (Str × Str)} (hn : ∀ a ∈ ns, Nm a) (hl : ∀ p ∈ ls, p.1 ∈ ns ∧ p.2 ∈ ns ∧ p.1 ≠ p.2) {i : Nat} (hi : A[i]? = some (some (.ins C (netF ns ls)))) : F_Net___eq__ C ans [.p (.obj C (netF ns ls)), .ref i] A = some (.val (.p (.bl true)) A) := by
  have s1 := shaped_nsT hn
  have s2 := shaped_lsT (ls := ls) fun p hp => ⟨hn _ (hl p hp).1, hn _ (hl p hp).2.1⟩
  have p1 := pyOfs_ns ns
  have p2 := pyOfs_ls ls
  obtain ⟨h1, h2, h3, h4, h5⟩ := h
  unfold F_Net___eq__ B_Net___eq__
  unfold netF at hi ⊢
  walk_at "start"
  walk_at "ev"
theorem has_link_t (h : An ans C) {ns : List Str} {ls : List (Str × Str)} (hn : ∀ a ∈ ns, Nm a) {a b : Str} (ma : a ∈ ns) (mb : b ∈ ns) (hne : a ≠ b) (hm : (a, b) ∈ ls ∨ (b, a) ∈ ls) (hk : ∀ p ∈ ls, p.1 ∈ ns ∧ p.2 ∈ ns ∧ p.1 ≠ p.2) :
    F_Net_has_link C ans [.p (.obj C (netF ns ls)), .p (lkP (a, b))] A = some (.val (.p (.bl true)) A) := by
  have il := is_link_t (A := A) h (hn a ma) (hn b mb) hne
  have f1 : findD false (kvN ns fun a => .tup (nsP (sortS (adj ls a)))) (.str a) = some (.tup (nsP (sortS (adj ls a)))) := by rw [find_kvN, if_pos ma]
  have mm : b ∈ sortS (adj ls a) := by
    refine (sortS_perm _).mem_iff.mpr ?_
    rcases hm with hm | hm
    · exact (mem_adj hm hne).1
    · exact (mem_adj hm (Ne.symm hne)).2
  have p1 := pyOfs_ns (sortS (adj ls a))
  have p2 := any_str (sortS (adj ls a)) b
  have p3 : decide (b ∈ sortS (adj ls a)) = true := decide_eq_true mm
  have p4 := shaped_nsL (ns := sortS (adj ls a)) fun c hc => by
    rcases adj_mem ((sortS_perm _).mem_iff.mp hc) with hc | hc
    · exact hn _ (hk _ hc).2.1
    · exact hn _ (hk _ hc).1
  have p5 := (hn b mb).shp
  clear hm hk mm
  unfold F_Net_has_link B_Net_has_link netF nearP
  walk_at "start"
  walk_at "ev"
theorem want_link_t (h : An ans C) {ns : List Str} {ls : List (Str × Str)} (hn : ∀ a ∈ ns, Nm a) {a b : Str} (ma : a ∈ ns) (mb : b ∈ ns) (hne : a ≠ b) (hm : (a, b) ∈ ls ∨ (b, a) ∈ ls) (hk : ∀ p ∈ ls, p.1 ∈ ns ∧ p.2 ∈ ns ∧ p.1 ≠ p.2) :
    F_want_link C ans [.p (.obj C (netF ns ls)), .p (lkP (a, b))] A = some (.val (.p (lkP (iq (a, b)))) A) := by
  have q1 := has_link_t (A := A) h hn ma mb hne hm hk
  have q2 := in_sequence_v (A := A) (a, b)
  generalize iq (a, b) = q at *
  clear hm hk
  unfold F_want_link B_want_link
  unfold netF at q1 ⊢
  simp only [lkP] at q1 q2 ⊢
  walk_at "start"
  walk_at "st"
  walk_at "ev"
def isO (C : Addr) (x : P) : Prop := ∃ fs, x = .obj C fs
theorem want_net_t (h : An ans C) {fs : List (Str × P)} : F_want_net C ans [.p (.obj C fs)] A = some (.val (.p .non) A) := by
  obtain ⟨h1, h2, h3, h4, h5⟩ := h
  unfold F_want_net B_want_net
  walk_at "start"
  walk_at "ev"
end PF.k19

/-! text M9 -/
set_option Elab.async false
set_option linter.all false
set_option maxRecDepth 100000
namespace PF.k19
open PySem L2 PySem.Spec PyProof.Rows

local macro_rules | `(tactic| walk_at "st") => `(tactic| (refine wp_seq fun k hk => ?_; walk_at "ev"; refine hk.out _ _ ?_; clear hk k))
local macro_rules | `(tactic| walk_at "start") => `(tactic| (refine defF_wp rfl ?_; simp only [startD, List.map_cons, List.map_nil, List.length_cons, List.length_nil, Nat.zero_add, Nat.reduceAdd, Nat.reduceSub, List.replicate, List.cons_append, List.nil_append, List.append_nil]))
/-! M9: nets out of nets -/
theorem nrm_nrm (ls : List (Str × Str)) : nrm ltS (nrm ltS ls) = nrm ltS ls := by
  simp only [nrm, List.map_map]
  exact List.map_congr_left fun p _ => inq_inq ltS_ord p
theorem Ok.perm {ns ms : List Str} {ls ks : List (Str × Str)} (o : Ok ns ls) (h1 : ns.Perm ms) (h2 : (nrm ltS ls).Perm (nrm ltS ks)) : Ok ms ks where
  nm := fun a ha => o.nm a (h1.mem_iff.mpr ha)
  nd := h1.nodup_iff.mp o.nd
  n0 := fun e => o.n0 (by rw [e] at h1; exact h1.eq_nil)
  hn := by rw [← h1.length_eq]; exact o.hn
  li := fun p hp => by
    have hq : iq p ∈ nrm ltS ls := h2.mem_iff.mpr (List.mem_map.mpr ⟨p, hp, rfl⟩)
    obtain ⟨q, hq, e⟩ := nrm_mem hq
    obtain ⟨a1, a2, a3⟩ := o.li q hq
    rcases (inq_iff ltS_ord).mp e with e | e
    · subst e; exact ⟨h1.mem_iff.mp a1, h1.mem_iff.mp a2, a3⟩
    · have e1 : q.1 = p.2 := by rw [e]
      have e2 : q.2 = p.1 := by rw [e]
      rw [e1] at a1 a3
      rw [e2] at a2 a3
      exact ⟨h1.mem_iff.mp a2, h1.mem_iff.mp a1, Ne.symm a3⟩
  ld := h2.nodup_iff.mp o.ld
  hl := by
    have := h2.length_eq
    simp only [List.length_map] at this
    rw [← this]; exact o.hl
theorem Ok.nmS {ns : List Str} {ls : List (Str × Str)} (o : Ok ns ls) : ∀ a ∈ sortS ns, Nm a := fun a ha => o.nm a ((sortS_perm ns).mem_iff.mp ha)
theorem inq_in {L : List (Str × Str)} {a b : Str} (h : iq (a, b) ∈ L) : (a, b) ∈ L ∨ (b, a) ∈ L := by
  rcases inq_cases ltS (a, b) with e | e
  · left; rw [← e]; exact h
  · right; rw [show ((b, a) : Str × Str) = ((a, b).2, (a, b).1) from rfl, ← e]; exact h
def nePl (q : Str × Str) (x : P) : Bool := match x with
  | .tup [.str a, .str b] => !(a == q.1 && (b == q.2 && true))
  | _ => false
theorem nePl_lk (q p : Str × Str) : nePl q (lkP p) = decide (p ≠ q) := by
  obtain ⟨a, b⟩ := p
  obtain ⟨c, d⟩ := q
  simp only [nePl, lkP, ne_eq, Prod.mk.injEq, Bool.and_true]
  by_cases h1 : a = c <;> by_cases h2 : b = d <;> simp [h1, h2]
theorem filter_nePl (q : Str × Str) (L : List (Str × Str)) : ((lsP L).filter (nePl q)).map (fun x => x) = lsP (L.filter fun p => decide (p ≠ q)) := by
  rw [List.map_id', List.filter_map]
  congr 1
  refine List.filter_congr fun p _ => ?_
  rw [← nePl_lk]; rfl
theorem lkF_1 (ns : List Str) (ls : List (Str × Str)) : List.lookup ("own_nodes" : Str) (netF ns ls) = some (.tup (nsP ns)) := by
  unfold netF; simp only [lk_1]
theorem lkF_2 (ns : List Str) (ls : List (Str × Str)) : List.lookup ("own_links" : Str) (netF ns ls) = some (.tup (lsP ls)) := by
  unfold netF; simp only [lk_2, lk_22]
theorem lkF_3 (ns : List Str) (ls : List (Str × Str)) : List.lookup ("own_near" : Str) (netF ns ls) = some (.dic false (kvN ns fun a => .tup (nsP (sortS (adj ls a))))) := by
  unfold netF; simp only [lk_3, lk_32, lk_33, nearP]
theorem lkF_has (ns : List Str) (ls : List (Str × Str)) : List.lookup ("has_link" : Str) (netF ns ls) = none := lkn_has _ _ _
theorem blsOf_const {α : Type} (xs : List α) : blsOf (xs.map fun _ => P.bl true) = some (xs.map fun _ => true) := by
  induction xs with
  | nil => rfl
  | cons x r ih => simp only [List.map_cons, blsOf, ih, Option.map_some]
theorem all_const {α : Type} (xs : List α) : (xs.map fun _ => true).all id = true := by
  induction xs with
  | nil => rfl
  | cons x r ih => simp only [List.map_cons, List.all_cons, ih, id]; rfl
local macro_rules | `(tactic| walk_at "ev") => `(tactic| simp only [wp_nx, wp_rt, fin, sIf, sRet_v, sThen, sSet_v, sAsg_v, sExpr_v, sSkip, sBreak, gNm, gTp, gCs, gNl, bVar, bC, bOp, bTest, bAnd, bOr, bNot, bIf, bOfT, bAndV, bOrV, bNil, bCons, bCall, bCB, bTup, bLst, pures, M.bind, M.ret, M.need, M.stuck, List.map_cons, List.map_nil, List.replicate, List.length_cons, List.length_nil, List.length_map, List.cons_append, List.nil_append, List.append_nil, List.getElem?_cons_zero, List.getElem?_cons_succ, List.set_cons_zero, List.set_cons_succ, Option.map_some, Nat.sub_self, Nat.zero_add, Nat.reduceAdd, Nat.reduceSub, List.take_length, Bool.not_true, Bool.not_false, if_true, if_false, ite_true, ite_false, reduceIte, reduceCtorEq, Bool.false_eq_true, oIsi, tyD, tyP, tyA, clsP, clsPs, ansAny, tupOf, lstOf, seqOf, strOf, intOf, dicOf, oLen, bChain, o2b, PF.sizeLine_eq, Nat.reduceLeDiff, Int.reduceLE, Int.reduceLT, decide_true, decide_false, bAlt, mAlt, oAlt, bSeq, bSigns, pureSeq, oIn_v, oInSeq, oInS, oDin, pyD, pyOf, pyOfs, PF.dicKey, oSub_v, oIx, oDget, o2eq, and_self, true_and, and_true, Nx, Gt, Option.isSome_some, Option.isSome_none, isTupD, atI_0, atI_1, PyData.eqv, PyData.eqvAll, shaped_int, Int.reduceBEq, bNeg, Int.reduceNeg, o2sb, bEnum, bSl, bPart, bNoPart, Option.some.injEq, forall_const, lkP, snoc_get, snoc_set, List.take_left, oIsNot, oIs, isNon, bDnew, sDput_v, endPut, dKey_str, dKey_lk, bFld, insOf, bStar, oTuple, putAt, oSorted, colP, pures_snoc, snoc_get2, snoc_take, bCV, bFrz, frzD, sFld_v, endFld, putFP, List.mem_cons, List.not_mem_nil, or_false, true_or, or_true, lk_1, lk_2, lk_22, lk_3, lk_32, lk_33, n_12, n_13, n_23, Nat.reduceLT, bMk, bMkV, bMeth, oListZip, oSl_tup_from1, oSl_tup_to1, oPlus_v, oAdd, oCatL, oCatT, frozen, eqvAll_ns, eqvAll_ls, List.map_id, lkn_has, bCM, bSM, List.drop_succ_cons, List.drop_zero, List.take_succ_cons, List.take_zero, oList, oOwn, oOwnNe, bProp, valF, lAlt, oLenO, oAll, bDic, bGet2, rIsD, lkF_1, lkF_2, lkF_3, lkF_has, *])
variable {ans : Value → Value → Option Bool} {C : Addr} {A : AH}
theorem sub_v (h : An ans C) {ns ms : List Str} {ls ks : List (Str × Str)} (o : Ok ns ls) {a b : Str} (ma : a ∈ ns) (mb : b ∈ ns) (hne : a ≠ b) (hm : iq (a, b) ∈ sortL (nrm ltS ls)) (o2 : Ok ms ks) (e1 : ns.Perm ms)
    (e2 : ((sortL (nrm ltS ls)).filter fun q => decide (q ≠ iq (a, b))).Perm (nrm ltS ks)) : F_Net___sub__ C ans [.p (net C ns ls), .p (lkP (a, b))] A = some (.val (.p (net C ms ks)) A) := by
  have n1 := (sortS_perm ns).mem_iff.mpr ma
  have n2 := (sortS_perm ns).mem_iff.mpr mb
  have w := want_link_t (A := A) h o.nmS n1 n2 hne (inq_in hm) o.mem
  have e3 : (nrm ltS ks).Perm (nrm ltS ((sortL (nrm ltS ls)).filter fun q => decide (q ≠ iq (a, b)))) := by
    have := (e2.map (inq ltS)).symm
    rwa [show List.map (inq ltS) (nrm ltS ks) = nrm ltS ks from nrm_nrm ks] at this
  have e4 : ms.Perm (sortS ns) := ((sortS_perm ns).trans e1).symm
  have m := mk_t (A := A) h (o2.perm e4 e3)
  have ee : net C ms ks = net C (sortS ns) ((sortL (nrm ltS ls)).filter fun q => decide (q ≠ iq (a, b))) := net_eq C e4 e3
  rw [ee]
  generalize hq : iq (a, b) = q at *
  have lc : ∀ v, (bLc (bAlt (bSeq (bFld [C] "own_links" (bVar 0))) (bSigns (bFld [C] "own_links" (bVar 0)))) (gNm 3) (bTest (bOp (o2eq true) (bVar 3) (bVar 2))) (bVar 3) [3]) [some (.p (.obj C (netF (sortS ns) (sortL (nrm ltS ls))))), v, some (.p (lkP q)), none] A =
      some (.val (.p (.lst (lsP ((sortL (nrm ltS ls)).filter fun p => decide (p ≠ q))))) A) := fun v => by
    rw [← filter_nePl]
    refine bLc_pure (xs := lsP (sortL (nrm ltS ls))) (nePl q) (fun x => x) (by walk_at "ev") (by rw [PF.sizeLine_eq, List.length_map, o.lens.2]; have := o.hl; omega) ?_
    intro x hx acc
    obtain ⟨p, hp, rfl⟩ := List.mem_map.mp hx
    have k1 := shaped_lk (p := p) ⟨o.nmS _ (o.mem p hp).1, o.nmS _ (o.mem p hp).2.1⟩
    have k2 := shaped_lk (p := q) ⟨o.nmS _ (o.mem q hm).1, o.nmS _ (o.mem q hm).2.1⟩
    clear w m ee e2 e3 e4 e1 hm hq hx hp
    refine ⟨_, rfl, ?_, fun _ => rfl⟩
    simp only [wipeD, nePl, lkP]
    walk_at "ev"
  clear e2 e3 e4 e1 ee hm hq
  simp only [lkP] at w lc
  unfold F_Net___sub__ B_Net___sub__
  unfold net lkP
  walk_at "start"
  walk_at "st"
  clear w
  walk_at "ev"
theorem part_v (h : An ans C) {ns : List Str} {ls ks : List (Str × Str)} (o : Ok ns ls) (o2 : Ok ns ks) (hs : ∀ p ∈ nrm ltS ls, p ∈ nrm ltS ks) : F_Net_is_part_of C ans [.p (net C ns ls), .p (net C ns ks)] A = some (.val (.p (.bl true)) A) := by
  have w := want_net_t (A := A) h (fs := netF (sortS ns) (sortL (nrm ltS ks)))
  have lc1 : ∀ v u t, (bLc (bAlt (bSeq (bFld [C] "own_nodes" (bVar 0))) (bSigns (bFld [C] "own_nodes" (bVar 0)))) (gNm 3) bYes (bOp (oIn false) (bVar 3) (bFld [C] "own_near" (bVar 1))) [3]) [some (.p (.obj C (netF (sortS ns) (sortL (nrm ltS ls))))), some (.p (.obj C (netF (sortS ns) (sortL (nrm ltS ks))))), v, u, t] A =
      some (.val (.p (.lst ((nsP (sortS ns)).map fun _ => .bl true))) A) := fun v u t => by
    refine bLc_map (xs := nsP (sortS ns)) (fun _ => .bl true) (by walk_at "ev") (by rw [PF.sizeLine_eq, List.length_map, o.lens.1]; have := o.hn; omega) ?_
    intro x hx acc
    obtain ⟨a, ha, rfl⟩ := List.mem_map.mp hx
    have f1 : findD false (kvN (sortS ns) fun a => .tup (nsP (sortS (adj (sortL (nrm ltS ks)) a)))) (.str a) = some (.tup (nsP (sortS (adj (sortL (nrm ltS ks)) a)))) := by rw [find_kvN, if_pos ha]
    clear w
    refine ⟨_, rfl, ?_⟩
    simp only [wipeD]
    walk_at "ev"
  have lc2 : ∀ v u t, (bLc (bAlt (bSeq (bFld [C] "own_links" (bVar 0))) (bSigns (bFld [C] "own_links" (bVar 0)))) (gNm 4) bYes (bMeth C "has_link" (F_Net_has_link C ans) [] (bVar 1) (bCons (bVar 4) bNil)) [4]) [some (.p (.obj C (netF (sortS ns) (sortL (nrm ltS ls))))), some (.p (.obj C (netF (sortS ns) (sortL (nrm ltS ks))))), v, u, t] A =
      some (.val (.p (.lst ((lsP (sortL (nrm ltS ls))).map fun _ => .bl true))) A) := fun v u t => by
    refine bLc_map (xs := lsP (sortL (nrm ltS ls))) (fun _ => .bl true) (by walk_at "ev") (by rw [PF.sizeLine_eq, List.length_map, o.lens.2]; have := o.hl; omega) ?_
    intro x hx acc
    obtain ⟨⟨a, b⟩, hp, rfl⟩ := List.mem_map.mp hx
    obtain ⟨ma, mb, hne⟩ := o.mem _ hp
    have hp2 : (a, b) ∈ sortL (nrm ltS ks) := (sortL_perm _).mem_iff.mpr (hs _ ((sortL_perm _).mem_iff.mp hp))
    have hl := has_link_t (A := A ++ [some (.lst acc)]) h o.nmS ma mb hne (.inl hp2) o2.mem
    clear w lc1 hs
    refine ⟨_, rfl, ?_⟩
    simp only [wipeD]
    simp only [lkP] at hl ⊢
    walk_at "ev"
  have b1 := blsOf_const (nsP (sortS ns))
  have b2 := blsOf_const (lsP (sortL (nrm ltS ls)))
  have b3 := all_const (nsP (sortS ns))
  have b4 := all_const (lsP (sortL (nrm ltS ls)))
  clear hs
  unfold F_Net_is_part_of B_Net_is_part_of net
  walk_at "start"
  walk_at "st"
  walk_at "st"
  walk_at "ev"
end PF.k19

/-! text M10 -/
set_option Elab.async false
set_option linter.all false
set_option maxRecDepth 100000
namespace PF.k19
open PySem L2 PySem.Spec PyProof.Rows

local macro_rules | `(tactic| walk_at "st") => `(tactic| (refine wp_seq fun k hk => ?_; walk_at "ev"; refine hk.out _ _ ?_; clear hk k))
local macro_rules | `(tactic| walk_at "start") => `(tactic| (refine defF_wp rfl ?_; simp only [startD, List.map_cons, List.map_nil, List.length_cons, List.length_nil, Nat.zero_add, Nat.reduceAdd, Nat.reduceSub, List.replicate, List.cons_append, List.nil_append, List.append_nil]))
/-! M10: two nodes become one; the net of some links -/
def neSl (q : Str) (x : P) : Bool := match x with
  | .str a => !(a == q)
  | _ => false
theorem filter_neSl (q : Str) (ns : List Str) : ((nsP ns).filter (neSl q)).map (fun x => x) = nsP (ns.filter fun a => decide (a ≠ q)) := by
  rw [List.map_id', List.filter_map]
  congr 1
  refine List.filter_congr fun a _ => ?_
  simp only [Function.comp_apply, neSl, ne_eq]
  by_cases h : a = q <;> simp [h]
def mapSt (f : Str → Str) (x : P) : P := match x with
  | .str a => .str (f a)
  | _ => .non
def mapLk (f : Str → Str) (x : P) : P := match x with
  | .tup [.str a, .str b] => lkP (iq (f a, f b))
  | _ => .non
def endsP (x : P) : List P := match x with
  | .tup xs => xs
  | _ => []
theorem strsP_ns (ns : List Str) : strsP (nsP ns) = some ns := by
  induction ns with
  | nil => rfl
  | cons a r ih => simp only [nsP, List.map_cons, strsP] at ih ⊢; rw [ih]; rfl
def ends (ls : List (Str × Str)) : List Str := ls.flatMap fun p => [p.1, p.2]
theorem ends_P (ls : List (Str × Str)) : ((lsP ls).flatMap fun x => (endsP x).map fun y => y) = nsP (ends ls) := by
  induction ls with
  | nil => rfl
  | cons p r ih =>
    simp only [lsP, List.map_cons, List.flatMap_cons, ends, nsP, List.map_append] at ih ⊢
    rw [ih]; rfl
theorem ends_len (ls : List (Str × Str)) : (ends ls).length = 2 * ls.length := by
  induction ls with
  | nil => rfl
  | cons p r ih =>
    have : ends (p :: r) = [p.1, p.2] ++ ends r := rfl
    rw [this, List.length_append, ih]
    simp only [List.length_cons, List.length_nil]; omega
theorem mem_ends {ls : List (Str × Str)} {x : Str} : x ∈ ends ls ↔ ∃ p ∈ ls, x = p.1 ∨ x = p.2 := by
  unfold ends
  simp only [List.mem_flatMap, List.mem_cons, List.not_mem_nil, or_false]
theorem sortS_unkey (ns : List Str) : (isort ltK (ns.map fun s => [s])).map (unkey false) = nsP (sortS ns) := by
  simp only [sortS, nsP, List.map_map]; rfl
theorem nodup_perm {α : Type} [DecidableEq α] {l m : List α} (h1 : l.Nodup) (h2 : m.Nodup) (h : ∀ x, x ∈ l ↔ x ∈ m) : l.Perm m := (List.perm_ext_iff_of_nodup h1 h2).mpr h
local macro_rules | `(tactic| walk_at "ev") => `(tactic| simp only [wp_nx, wp_rt, fin, sIf, sRet_v, sThen, sSet_v, sAsg_v, sExpr_v, sSkip, sBreak, gNm, gTp, gCs, gNl, bVar, bC, bOp, bTest, bAnd, bOr, bNot, bIf, bOfT, bAndV, bOrV, bNil, bCons, bCall, bCB, bTup, bLst, pures, M.bind, M.ret, M.need, M.stuck, List.map_cons, List.map_nil, List.replicate, List.length_cons, List.length_nil, List.length_map, List.cons_append, List.nil_append, List.append_nil, List.getElem?_cons_zero, List.getElem?_cons_succ, List.set_cons_zero, List.set_cons_succ, Option.map_some, Nat.sub_self, Nat.zero_add, Nat.reduceAdd, Nat.reduceSub, List.take_length, Bool.not_true, Bool.not_false, if_true, if_false, ite_true, ite_false, reduceIte, reduceCtorEq, Bool.false_eq_true, oIsi, tyD, tyP, tyA, clsP, clsPs, ansAny, tupOf, lstOf, seqOf, strOf, intOf, dicOf, oLen, bChain, o2b, PF.sizeLine_eq, Nat.reduceLeDiff, Int.reduceLE, Int.reduceLT, decide_true, decide_false, bAlt, mAlt, oAlt, bSeq, bSigns, pureSeq, oIn_v, oInSeq, oInS, oDin, pyD, pyOf, pyOfs, PF.dicKey, oSub_v, oIx, oDget, o2eq, and_self, true_and, and_true, Nx, Gt, Option.isSome_some, Option.isSome_none, isTupD, atI_0, atI_1, PyData.eqv, PyData.eqvAll, shaped_int, Int.reduceBEq, bNeg, Int.reduceNeg, o2sb, bEnum, bSl, bPart, bNoPart, Option.some.injEq, forall_const, lkP, snoc_get, snoc_set, List.take_left, oIsNot, oIs, isNon, bDnew, sDput_v, endPut, dKey_str, dKey_lk, bFld, insOf, bStar, oTuple, putAt, oSorted, colP, pures_snoc, snoc_get2, snoc_take, bCV, bFrz, frzD, sFld_v, endFld, putFP, List.mem_cons, List.not_mem_nil, or_false, true_or, or_true, lk_1, lk_2, lk_22, lk_3, lk_32, lk_33, n_12, n_13, n_23, Nat.reduceLT, bMk, bMkV, bMeth, oListZip, oSl_tup_from1, oSl_tup_to1, oPlus_v, oAdd, oCatL, oCatT, frozen, eqvAll_ns, eqvAll_ls, List.map_id, lkn_has, bCM, bSM, List.drop_succ_cons, List.drop_zero, List.take_succ_cons, List.take_zero, oList, oOwn, oOwnNe, bProp, valF, lAlt, oLenO, oAll, bDic, bGet2, rIsD, lkF_1, lkF_2, lkF_3, lkF_has, *])
variable {ans : Value → Value → Option Bool} {C : Addr} {A : AH}
theorem of_v (h : An ans C) {ms : List Str} {ls : List (Str × Str)} (o : Ok ms ls) (h6 : ls.length ≤ 60) (l0 : ls ≠ []) (hm : ∀ x ∈ ms, ∃ p ∈ ls, x = p.1 ∨ x = p.2) : F_Net_of C ans [.p (.tup (lsP ls))] A = some (.val (.p (net C ms ls)) A) := by
  have pa := pairs_of_n (A := A) h o.nm o.li o.ld o.hl
  have b1 : ((ls.length : Int) == 0) = false := by simp; exact l0
  have hp : ∀ x, x ∈ ms ↔ x ∈ ends (sortL (nrm ltS ls)) := fun x => by
    rw [mem_ends]
    constructor
    · intro hx
      obtain ⟨p, hp, e⟩ := hm x hx
      refine ⟨iq p, (sortL_perm _).mem_iff.mpr (List.mem_map.mpr ⟨p, hp, rfl⟩), ?_⟩
      exact (inq_mem ltS p x).mpr e
    · rintro ⟨q, hq, e⟩
      obtain ⟨p, hp, rfl⟩ := nrm_mem ((sortL_perm _).mem_iff.mp hq)
      obtain ⟨a1, a2, _⟩ := o.li p hp
      rcases (inq_mem ltS p x).mp e with e | e <;> rw [e]
      · exact a1
      · exact a2
  have e1 : ms.Perm (nubS (ends (sortL (nrm ltS ls)))) := nodup_perm o.nd (nodup_nubS _) fun x => by rw [hp, mem_nubS]
  have e1 : ms.Perm (sortS (nubS (ends (sortL (nrm ltS ls))))) := e1.trans (sortS_perm _).symm
  have e2 : (nrm ltS ls).Perm (nrm ltS (sortL (nrm ltS ls))) := by
    have := ((sortL_perm (nrm ltS ls)).map (inq ltS)).symm
    rwa [show List.map (inq ltS) (nrm ltS ls) = nrm ltS ls from nrm_nrm ls] at this
  have m := mk_l (A := A) h (o.perm e1 e2)
  have ee : net C ms ls = net C (sortS (nubS (ends (sortL (nrm ltS ls))))) (sortL (nrm ltS ls)) := net_eq C e1 e2
  rw [ee]
  have s1 := strsP_ns (ends (sortL (nrm ltS ls)))
  have s2 := sortS_unkey (nubS (ends (sortL (nrm ltS ls))))
  have s3 : (ends (sortL (nrm ltS ls))).length + 1 < scanBound := by
    rw [ends_len, o.lens.2]; unfold scanBound; omega
  have lc : (bLc2 (bAlt (bSeq (bVar 1)) (bSigns (bVar 1))) (gNm 2) bYes (bAlt (bSeq (bVar 2)) (bSigns (bVar 2))) (gNm 3) bYes (bVar 3) [2, 3] [3]) [some (.p (.tup (lsP ls))), some (.p (.lst (lsP (sortL (nrm ltS ls))))), none, none] A = some (.val (.p (.lst (nsP (ends (sortL (nrm ltS ls)))))) A) := by
    rw [← ends_P]
    refine bLc2_map (xs := lsP (sortL (nrm ltS ls))) endsP (fun _ y => y) (by clear pa m s1 s2; walk_at "ev") ?_ ?_
    · rw [ends_P, PF.sizeLine_eq, List.length_map, ends_len, o.lens.2]; omega
    · intro x hx acc
      obtain ⟨p, _, rfl⟩ := List.mem_map.mp hx
      clear pa m s1 s2
      refine ⟨_, rfl, ?_, fun y hy acc => ⟨_, rfl, rfl⟩⟩
      simp only [wipeD, endsP, lkP]
      walk_at "ev"
  clear e1 e2 ee hp
  have os : ∀ B, oSortSet [.p (.lst (nsP (ends (sortL (nrm ltS ls)))))] B = some (.val (.p (.lst (nsP (sortS (nubS (ends (sortL (nrm ltS ls)))))))) B) := fun B => by
    unfold oSortSet lstOf
    simp only [s1, s3, if_true, s2]
  clear s1 s2 s3
  unfold F_Net_of B_Net_of net
  walk_at "start"
  walk_at "st"
  walk_at "st"
  walk_at "ev"

theorem drawn_v (h : An ans C) {a b c : Str} {r : List Str} (n : Ns (a :: b :: c :: r)) (hr : r ≠ []) : F_Net_drawn_together C ans [.p (net C (a :: b :: c :: r) (ringL (a :: b :: c :: r))), .p (lkP (b, c))] A =
    some (.val (.p (net C (a :: (iq (b, c)).1 :: r) (ringL (a :: (iq (b, c)).1 :: r)))) A) := by
  have nd := n.nd
  obtain ⟨na, nd1⟩ := List.nodup_cons.mp nd
  obtain ⟨nb, nd2⟩ := List.nodup_cons.mp nd1
  obtain ⟨nc, nd3⟩ := List.nodup_cons.mp nd2
  have nbc : b ≠ c := fun e => nb (by simp [e])
  have hbc : iq (b, c) = (b, c) ∨ iq (b, c) = (c, b) := inq_cases ltS (b, c)
  have o := n.ring (by simp)
  have hfin : (a :: b :: c :: r).filter (fun x => decide (x ≠ (iq (b, c)).2)) = a :: (iq (b, c)).1 :: r := by
    have fr : ∀ z, (z = b ∨ z = c) → r.filter (fun x => decide (x ≠ z)) = r := fun z hz => List.filter_eq_self.mpr fun x hx => by
      simp only [ne_eq, decide_not, Bool.not_eq_true', decide_eq_false_iff_not]
      intro e; subst e
      rcases hz with e | e
      · subst e; exact nb (by simp [hx])
      · subst e; exact nc hx
    have nab : a ≠ b := fun e => na (by simp [e])
    have nac : a ≠ c := fun e => na (by simp [e])
    rcases hbc with e | e <;> rw [e]
    · simp only [List.filter_cons, fr c (.inr rfl)]; simp [nac, nbc]
    · simp only [List.filter_cons, fr b (.inl rfl)]; simp [nab, Ne.symm nbc]
  have n2 : Ns (a :: (iq (b, c)).1 :: r) := by
    rw [← hfin]
    refine ⟨fun x hx => n.nm x (List.mem_filter.mp hx).1, nd.filter _, ?_, ?_⟩
    · rw [hfin]; simp
    · have := List.length_filter_le (fun x => decide (x ≠ (iq (b, c)).2)) (a :: b :: c :: r)
      have := n.h7; omega
  have o2 := n2.ring (by
    cases r with
    | nil => exact absurd rfl hr
    | cons z r => simp)
  have hm : iq (b, c) ∈ sortL (nrm ltS (ringL (a :: b :: c :: r))) := by
    refine (sortL_perm _).mem_iff.mpr (List.mem_map.mpr ⟨(b, c), ?_, rfl⟩)
    rw [ringL_cons]
    simp [pathL]
  have mS : ∀ {x}, x ∈ (a :: b :: c :: r) → x ∈ sortS (a :: b :: c :: r) := fun hx => (sortS_perm _).mem_iff.mpr hx
  have w := want_link_t (A := A) h o.nmS (mS (x := b) (by simp)) (mS (x := c) (by simp)) nbc (inq_in hm) o.mem
  have hct := contract ltS_ord nd hr rfl (sortL_perm (nrm ltS (ringL (a :: b :: c :: r))))
  have hmem := o.mem
  have hnm := o.nmS
  have hlen := o.lens
  have hlen2 : (sortL (nrm ltS (ringL (a :: b :: c :: r)))).length ≤ 120 := by rw [hlen.2]; exact o.hl
  have hlen1 : (sortS (a :: b :: c :: r)).length ≤ 60 := by rw [hlen.1]; exact o.hn
  have hndS : (sortS (a :: b :: c :: r)).Nodup := (sortS_perm _).nodup_iff.mpr nd
  have e4 : (a :: (iq (b, c)).1 :: r).Perm ((sortS (a :: b :: c :: r)).filter fun x => decide (x ≠ (iq (b, c)).2)) := by
    rw [← hfin]; exact ((sortS_perm _).filter _).symm
  have kin : (iq (b, c)).1 ∈ sortS (a :: b :: c :: r) := (hmem _ hm).1
  have gin : (iq (b, c)).2 ∈ sortS (a :: b :: c :: r) := (hmem _ hm).2.1
  have e5 : (nrm ltS (ringL (a :: (iq (b, c)).1 :: r))).Perm (nrm ltS (((sortL (nrm ltS (ringL (a :: b :: c :: r)))).map fun p => iq ((fun z => if z = (iq (b, c)).2 then (iq (b, c)).1 else z) p.1, (fun z => if z = (iq (b, c)).2 then (iq (b, c)).1 else z) p.2)).filter fun q => decide (q ≠ ((iq (b, c)).1, (iq (b, c)).1)))) := by
    have := (hct.2.map (inq ltS)).symm
    rwa [show List.map (inq ltS) (nrm ltS (ringL (a :: (inq ltS (b, c)).1 :: r))) = nrm ltS (ringL (a :: (inq ltS (b, c)).1 :: r)) from nrm_nrm _] at this
  have m := mk_l (A := A) h (o2.perm e4 e5)
  have ee := net_eq C e4 e5
  rw [ee]
  have hct1 : ((sortL (nrm ltS (ringL (a :: b :: c :: r)))).map fun p => iq ((fun z => if z = (iq (b, c)).2 then (iq (b, c)).1 else z) p.1, (fun z => if z = (iq (b, c)).2 then (iq (b, c)).1 else z) p.2)).Nodup := hct.1
  clear hct
  unfold net
  clear hm hfin hbc nbc nb nc na nd1 nd2 nd3 n2 n nd o e5 e4 ee o2
  generalize sortL (nrm ltS (ringL (a :: b :: c :: r))) = L at *
  generalize sortS (a :: b :: c :: r) = S at *
  generalize iq (b, c) = q at *
  have kinN := hnm _ kin
  have ginN := hnm _ gin
  generalize hf : (fun z => if z = q.2 then q.1 else z) = f at *
  have hct : (L.map fun p => iq (f p.1, f p.2)).Nodup := hct1
  clear hct1
  have dc1 : ∀ x0 x1 x4 x5 x6 x8 x9 x10, (bDc false (bAlt (bSeq (bFld [C] "own_nodes" (bVar 0))) (bSigns (bFld [C] "own_nodes" (bVar 0)))) (gNm 7) bYes (bVar 7) (bIf (bTest (bOp (o2eq false) (bVar 7) (bVar 3))) (bVar 2) (bVar 7)) [7]) [some (.p (.obj C (netF S L))), x0, some (.p (.str q.1)), some (.p (.str q.2)), x4, x5, x6, x1, x8, x9, x10] A =
      some (.val (.p (.dic false (kvN S fun z => .str (f z)))) A) := fun x0 x1 x4 x5 x6 x8 x9 x10 => by
    have e := bDc_map (t := false) (f := (bAlt (bSeq (bFld [C] "own_nodes" (bVar 0))) (bSigns (bFld [C] "own_nodes" (bVar 0))))) (g := gNm 7) (tk := bVar 7) (tv := bIf (bTest (bOp (o2eq false) (bVar 7) (bVar 3))) (bVar 2) (bVar 7)) (vs := [7]) (σ := [some (.p (.obj C (netF S L))), x0, some (.p (.str q.1)), some (.p (.str q.2)), x4, x5, x6, x1, x8, x9, x10]) (A := A) (A1 := A) (xs := nsP S) (fun x => x) (mapSt f) (by clear w m hct hf; walk_at "ev") (by rw [PF.sizeLine_eq, List.length_map]; omega) (by
        intro x hx
        obtain ⟨a, _, rfl⟩ := List.mem_map.mp hx
        rfl) (by
        rw [List.map_map]
        refine List.Pairwise.map _ ?_ hndS
        intro a b hab e
        simp only [Function.comp_apply, dKey_str, Option.some.injEq, List.cons.injEq, Sum.inr.injEq, and_true] at e
        exact hab e) (by
        intro x hx acc
        obtain ⟨z, hz, rfl⟩ := List.mem_map.mp hx
        have k1 := (hnm z hz).shp
        have k2 := ginN.shp
        refine ⟨_, rfl, rfl, ?_⟩
        clear w m hct hx hz hmem hnm
        subst hf
        by_cases e : z = q.2
        · have e1 : (z == q.2) = true := by simpa using e
          simp only [wipeD, mapSt, if_pos e]
          clear e
          walk_at "ev"
        · have e1 : (z == q.2) = false := by simpa using e
          simp only [wipeD, mapSt, if_neg e]
          clear e
          walk_at "ev")
    rw [e, List.map_map]
    rfl
  have dc2 : ∀ x0 x1 x5 x6 x8 x9 x10, (bDc true (bSeq (bFld [C] "own_links" (bVar 0))) (gTp 2 (gCs (gNm 8) (gCs (gNm 9) gNl))) bYes (bCall F_in_sequence [] (bCons (bTup (bCons (bOp oSub (bVar 4) (bVar 8)) (bCons (bOp oSub (bVar 4) (bVar 9)) bNil))) bNil)) (bC (.bl true)) [8, 9]) [some (.p (.obj C (netF S L))), x0, some (.p (.str q.1)), some (.p (.str q.2)), some (.p (.dic false (kvN S fun z => .str (f z)))), x5, x6, x1, x8, x9, x10] A =
      some (.val (.p (.dic true (kvL (L.map fun p => iq (f p.1, f p.2))))) A) := fun x0 x1 x5 x6 x8 x9 x10 => by
    have e := bDc_map (t := true) (f := bSeq (bFld [C] "own_links" (bVar 0))) (g := (gTp 2 (gCs (gNm 8) (gCs (gNm 9) gNl)))) (tk := (bCall F_in_sequence [] (bCons (bTup (bCons (bOp oSub (bVar 4) (bVar 8)) (bCons (bOp oSub (bVar 4) (bVar 9)) bNil))) bNil))) (tv := bC (.bl true)) (vs := [8, 9]) (σ := [some (.p (.obj C (netF S L))), x0, some (.p (.str q.1)), some (.p (.str q.2)), some (.p (.dic false (kvN S fun z => .str (f z)))), x5, x6, x1, x8, x9, x10]) (A := A) (A1 := A) (xs := lsP L) (mapLk f) (fun _ => .bl true) (by clear w m hct hf dc1; walk_at "ev") (by rw [PF.sizeLine_eq, List.length_map]; omega) (by
        intro x hx
        obtain ⟨p, _, rfl⟩ := List.mem_map.mp hx
        rfl) (by
        rw [List.map_map]
        have e2 : (L.map fun p => iq (f p.1, f p.2)).map (fun p => dKey true (lkP p)) = L.map ((fun x => dKey true (mapLk f x)) ∘ lkP) := by
          rw [List.map_map]; rfl
        rw [← e2]
        refine List.Pairwise.map _ ?_ hct
        intro p p' hab e
        simp only [dKey_lkP, Option.some.injEq, List.cons.injEq, Sum.inr.injEq, and_true] at e
        exact hab (Prod.ext e.1 e.2)) (by
        intro x hx acc
        obtain ⟨⟨y, z⟩, hp, rfl⟩ := List.mem_map.mp hx
        have k1 : findD false (kvN S fun z => .str (f z)) (.str y) = some (.str (f y)) := by rw [find_kvN, if_pos (hmem _ hp).1]
        have k2 : findD false (kvN S fun z => .str (f z)) (.str z) = some (.str (f z)) := by rw [find_kvN, if_pos (hmem _ hp).2.1]
        have k3 := in_sequence_v (A := A ++ [some (.dic true acc)]) (f y, f z)
        refine ⟨_, rfl, ?_, rfl⟩
        simp only [lkP, mapLk, wipeD] at k3 ⊢
        clear w m hct hx hp hmem hnm hf dc1
        walk_at "ev")
    rw [e, List.map_map]
    simp only [kvL, List.map_map]
    rfl
  have lc1 : ∀ x0 x1 x4 x5 x6 x8 x9 x10, (bLc (bAlt (bSeq (bFld [C] "own_nodes" (bVar 0))) (bSigns (bFld [C] "own_nodes" (bVar 0)))) (gNm 7) (bTest (bOp (o2eq true) (bVar 7) (bVar 3))) (bVar 7) [7]) [some (.p (.obj C (netF S L))), x0, some (.p (.str q.1)), some (.p (.str q.2)), x4, x5, x6, x1, x8, x9, x10] A =
      some (.val (.p (.lst (nsP (S.filter fun x => decide (x ≠ q.2))))) A) := fun x0 x1 x4 x5 x6 x8 x9 x10 => by
    rw [← filter_neSl]
    refine bLc_pure (xs := nsP S) (neSl q.2) (fun x => x) (by clear w m hct hf dc1 dc2; walk_at "ev") (by rw [PF.sizeLine_eq, List.length_map]; omega) ?_
    intro x hx acc
    obtain ⟨z, hz, rfl⟩ := List.mem_map.mp hx
    have k1 := (hnm z hz).shp
    have k2 := ginN.shp
    refine ⟨_, rfl, ?_, fun _ => rfl⟩
    clear w m hct hx hz hmem hnm hf dc1 dc2
    simp only [wipeD, neSl]
    walk_at "ev"
  have lc2 : ∀ x0 x1 x4 x6 x8 x9 x10, (bLc (bDic (bVar 5)) (gNm 10) (bTest (bOp (o2eq true) (bVar 10) (bTup (bCons (bVar 2) (bCons (bVar 2) bNil))))) (bVar 10) [10]) [some (.p (.obj C (netF S L))), x0, some (.p (.str q.1)), some (.p (.str q.2)), x4, some (.p (.dic true (kvL (L.map fun p => iq (f p.1, f p.2))))), x6, x1, x8, x9, x10] A =
      some (.val (.p (.lst (lsP ((L.map fun p => iq (f p.1, f p.2)).filter fun p => decide (p ≠ (q.1, q.1)))))) A) := fun x0 x1 x4 x6 x8 x9 x10 => by
    rw [← filter_nePl]
    have it : (bDic (bVar 5)) [some (.p (.obj C (netF S L))), x0, some (.p (.str q.1)), some (.p (.str q.2)), x4, some (.p (.dic true (kvL (L.map fun p => iq (f p.1, f p.2))))), x6, x1, x8, x9, x10] A = some (.val (lsP (L.map fun p => iq (f p.1, f p.2))) A) := by
      have : (kvL (L.map fun p => iq (f p.1, f p.2))).map (·.1) = lsP (L.map fun p => iq (f p.1, f p.2)) := by simp [kvL]
      rw [← this]; rfl
    refine bLc_pure (xs := lsP (L.map fun p => iq (f p.1, f p.2))) (nePl (q.1, q.1)) (fun x => x) it (by rw [PF.sizeLine_eq, List.length_map, List.length_map]; omega) ?_
    intro x hx acc
    obtain ⟨p, hp', rfl⟩ := List.mem_map.mp hx
    obtain ⟨⟨y, z⟩, hp, rfl⟩ := List.mem_map.mp hp'
    have fN : ∀ z, z ∈ S → Nm (f z) := fun z hz => by
      rw [← hf]; simp only
      split
      · exact kinN
      · exact hnm z hz
    have f1 := fN _ (hmem _ hp).1
    have f2 := fN _ (hmem _ hp).2.1
    have k1 : SeqAt.shaped (.tuple [.str (iq (f y, f z)).1, .str (iq (f y, f z)).2]) = true := by
      have hcs : iq (f y, f z) = (f y, f z) ∨ iq (f y, f z) = (f z, f y) := inq_cases ltS (f y, f z)
      rcases hcs with e | e <;> rw [e]
      · exact shaped_lk (p := (f y, f z)) ⟨f1, f2⟩
      · exact shaped_lk (p := (f z, f y)) ⟨f2, f1⟩
    have k2 := shaped_lk (p := (q.1, q.1)) ⟨kinN, kinN⟩
    refine ⟨_, rfl, ?_, fun _ => rfl⟩
    clear w m hct hx hp hp' hmem hnm hf dc1 dc2 lc1 it
    generalize iq (f y, f z) = u at *
    simp only [wipeD, nePl, lkP] at k1 k2 ⊢
    walk_at "ev"
  have hm2 : (L.map fun p => iq (f p.1, f p.2)).filter (fun p => decide (p ≠ (q.1, q.1))) = (L.map fun p => iq (f p.1, f p.2)).filter (fun p => decide (p ≠ (q.1, q.1))) := rfl
  clear hct hmem hnm hf hm2 hndS
  simp only [lkP] at w
  unfold F_Net_drawn_together B_Net_drawn_together
  unfold lkP
  walk_at "start"
  walk_at "st"
  walk_at "st"
  walk_at "st"
  walk_at "st"
  walk_at "ev"
end PF.k19

/-! text M11 -/
set_option Elab.async false
set_option linter.all false
set_option maxRecDepth 100000
namespace PF.k19
open PySem L2 PySem.Spec PyProof.Rows

local macro_rules | `(tactic| walk_at "st") => `(tactic| (refine wp_seq fun k hk => ?_; walk_at "ev"; refine hk.out _ _ ?_; clear hk k))
local macro_rules | `(tactic| walk_at "start") => `(tactic| (refine defF_wp rfl ?_; simp only [startD, List.map_cons, List.map_nil, List.length_cons, List.length_nil, Nat.zero_add, Nat.reduceAdd, Nat.reduceSub, List.replicate, List.cons_append, List.nil_append, List.append_nil]))
/-! M11: paths, rings and full nets of so many names; what is told of a net -/
theorem dataPs_ns (ns : List Str) : dataPs (nsP ns) = some (ns.map PyData.str) := by
  induction ns with
  | nil => rfl
  | cons a r ih => simp only [nsP, List.map_cons, dataPs, dataP] at ih ⊢; rw [ih]
theorem dataPs_ls (ls : List (Str × Str)) : dataPs (lsP ls) = some (ls.map lkD) := by
  induction ls with
  | nil => rfl
  | cons a r ih => simp only [lsP, List.map_cons, dataPs, lkP, dataP, Option.map_some] at ih ⊢; rw [ih]; rfl
structure Sh (ds : List PyData) (n : Nat) : Prop where
  sh : PyData.showableAll ds = true
  hd : PyData.hasDictAll ds = false
  de : PyData.depthAll ds ≤ 1
  le : PyData.leavesShortAll 13 ds = true
  we : PyData.weightAll ds ≤ n
theorem Nm.lt {a : Str} (n : Nm a) : (a.cps.toList.all fun c => decide (c < 16 ^ 8)) = true := by
  rw [List.all_eq_true]
  intro c hc
  have h := n.ok c hc
  have : ∀ c ∈ letters.cps.toList, c < 16 ^ 8 := by decide +kernel
  exact decide_eq_true (this c h)
theorem sh_ns : ∀ {ns : List Str}, (∀ a ∈ ns, Nm a) → Sh (ns.map PyData.str) (9 * ns.length)
  | [], _ => ⟨rfl, rfl, Nat.zero_le _, rfl, Nat.zero_le _⟩
  | a :: r, h => by
    have ih := sh_ns (ns := r) fun b hb => h b (List.mem_cons_of_mem _ hb)
    have n := h a List.mem_cons_self
    have h8 : a.cps.size ≤ 8 := n.hi
    have hw := ih.we
    have hd := ih.de
    refine ⟨?_, ?_, ?_, ?_, ?_⟩
    · simp only [List.map_cons, PyData.showableAll, PyData.showable, ih.sh]; rfl
    · simp only [List.map_cons, PyData.hasDictAll, PyData.hasDict, ih.hd]; rfl
    · simp only [List.map_cons, PyData.depthAll, PyData.depth]; omega
    · simp only [List.map_cons, PyData.leavesShortAll, PyData.leavesShort, ih.le, n.lt]; rfl
    · simp only [List.map_cons, PyData.weightAll, PyData.weight, List.length_cons]; omega
theorem sh_ls : ∀ {ls : List (Str × Str)}, (∀ p ∈ ls, Nm p.1 ∧ Nm p.2) → Sh (ls.map lkD) (19 * ls.length)
  | [], _ => ⟨rfl, rfl, Nat.zero_le _, rfl, Nat.zero_le _⟩
  | a :: r, h => by
    have ih := sh_ls (ls := r) fun b hb => h b (List.mem_cons_of_mem _ hb)
    obtain ⟨n1, n2⟩ := h a List.mem_cons_self
    have h8 : a.1.cps.size ≤ 8 := n1.hi
    have h9 : a.2.cps.size ≤ 8 := n2.hi
    have hw := ih.we
    have hd := ih.de
    refine ⟨?_, ?_, ?_, ?_, ?_⟩
    · simp only [List.map_cons, PyData.showableAll, PyData.showable, lkD, ih.sh]; rfl
    · simp only [List.map_cons, PyData.hasDictAll, PyData.hasDict, lkD, ih.hd]; rfl
    · simp only [List.map_cons, PyData.depthAll, PyData.depth, lkD]; omega
    · simp only [List.map_cons, PyData.leavesShortAll, PyData.leavesShort, lkD, ih.le, n1.lt, n2.lt]; rfl
    · simp only [List.map_cons, PyData.weightAll, PyData.weight, lkD, List.length_cons]; omega
theorem int_short {k : Nat} (h : k ≤ 1000) : (PyData.shown (.int k)).length ≤ 13 := PyData.shown_int_le (by
  have : (k : Int).natAbs = k := Int.natAbs_natCast k
  rw [this]; omega)
theorem int_weight {k : Nat} (h : k ≤ 1000) : PyData.weight (.int k) ≤ 1001 := by
  unfold PyData.weight
  split
  · omega
  · have : (k : Int).natAbs = k := Int.natAbs_natCast k
    rw [this]
    have := Nat.log2_self_le (n := k)
    have h2 : k.log2 ≤ k := Nat.log2_le_self k
    omega
theorem int_showable {k : Nat} (h : k ≤ 1000) : PyData.showable (.int k) = true := by
  unfold PyData.showable
  have : (k : Int).natAbs = k := Int.natAbs_natCast k
  rw [this]
  have h2 : k.log2 ≤ k := Nat.log2_le_self k
  exact decide_eq_true (by omega)
theorem repr_told {ns : List Str} {L : List (Str × Str)} {i j : Nat} (hn : ∀ a ∈ ns, Nm a) (hl : ∀ p ∈ L, Nm p.1 ∧ Nm p.2) (h1 : ns.length ≤ 100) (h2 : L.length ≤ 200) (hi : i ≤ 1000) (hj : j ≤ 1000) :
    ∃ s, ∀ B, oRepr [.p (.lst [.lst (nsP ns), .lst (lsP L), .int i, .int j])] B = some (.val (.p (.str s)) B) := by
  have a := sh_ns hn
  have b := sh_ls hl
  have hw1 := a.we
  have hw2 := b.we
  have hd1 := a.de
  have hd2 := b.de
  have w1 := int_weight hi
  have w2 := int_weight hj
  have ls : PyData.leavesShort 13 (.list [.list (ns.map PyData.str), .list (L.map lkD), .int i, .int j]) = true := by
    simp only [PyData.leavesShort, PyData.leavesShortAll, a.le, b.le, int_short hi, int_short hj, decide_true, Bool.and_self]
  have we : PyData.weight (.list [.list (ns.map PyData.str), .list (L.map lkD), .int i, .int j]) ≤ 2 ^ 20 := by
    have e : (2 : Nat) ^ 20 = 1048576 := by decide
    rw [e]
    have e1 : PyData.weight (.list [.list (ns.map PyData.str), .list (L.map lkD), .int i, .int j]) = PyData.weightAll (ns.map PyData.str) + 1 + (PyData.weightAll (L.map lkD) + 1 + (PyData.weight (.int i) + 1 + (PyData.weight (.int j) + 1 + 0))) := by
      simp only [PyData.weight, PyData.weightAll]
    rw [e1]; omega
  have ok : okData (.list [.list (ns.map PyData.str), .list (L.map lkD), .int i, .int j]) = true := by
    unfold okData
    have s1 : PyData.showable (.list [.list (ns.map PyData.str), .list (L.map lkD), .int i, .int j]) = true := by
      have q1 := int_showable hi
      have q2 := int_showable hj
      simp only [PyData.showable, PyData.showableAll, a.sh, b.sh, Bool.true_and, Bool.and_true] at q1 q2 ⊢
      rw [q1, q2]; rfl
    have s2 : PyData.hasDict (.list [.list (ns.map PyData.str), .list (L.map lkD), .int i, .int j]) = false := by
      simp only [PyData.hasDict, PyData.hasDictAll, a.hd, b.hd, Bool.or_self]
    have s3 : PyData.depth (.list [.list (ns.map PyData.str), .list (L.map lkD), .int i, .int j]) ≤ 60 := by
      simp only [PyData.depth, PyData.depthAll]; omega
    have s4 := PyData.shown_fits (B := 13) (by decide) (by decide) ls we
    rw [s1, s2, decide_eq_true s3, decide_eq_true s4]; rfl
  refine ⟨PyData.shown (.list [.list (ns.map PyData.str), .list (L.map lkD), .int i, .int j]), fun B => ?_⟩
  unfold oRepr
  simp only [dataP, dataPs, dataPs_ns, dataPs_ls, Option.map_some, ok, if_true]
  rfl
theorem lkF_gen {m : Str} (h1 : (m == ("own_nodes" : Str)) = false) (h2 : (m == ("own_links" : Str)) = false) (h3 : (m == ("own_near" : Str)) = false) (ns : List Str) (ls : List (Str × Str)) : List.lookup m (netF ns ls) = none := by
  unfold netF
  simp only [List.lookup_cons, h1, h2, h3, List.lookup_nil]
theorem lkF_nodes (ns : List Str) (ls : List (Str × Str)) : List.lookup ("nodes" : Str) (netF ns ls) = none := lkF_gen (by decide +kernel) (by decide +kernel) (by decide +kernel) ns ls
theorem lkF_links (ns : List Str) (ls : List (Str × Str)) : List.lookup ("links" : Str) (netF ns ls) = none := lkF_gen (by decide +kernel) (by decide +kernel) (by decide +kernel) ns ls
theorem lkF_size (ns : List Str) (ls : List (Str × Str)) : List.lookup ("size" : Str) (netF ns ls) = none := lkF_gen (by decide +kernel) (by decide +kernel) (by decide +kernel) ns ls
local macro_rules | `(tactic| walk_at "ev") => `(tactic| simp only [wp_nx, wp_rt, fin, sIf, sRet_v, sThen, sSet_v, sAsg_v, sExpr_v, sSkip, sBreak, gNm, gTp, gCs, gNl, bVar, bC, bOp, bTest, bAnd, bOr, bNot, bIf, bOfT, bAndV, bOrV, bNil, bCons, bCall, bCB, bTup, bLst, pures, M.bind, M.ret, M.need, M.stuck, List.map_cons, List.map_nil, List.replicate, List.length_cons, List.length_nil, List.length_map, List.cons_append, List.nil_append, List.append_nil, List.getElem?_cons_zero, List.getElem?_cons_succ, List.set_cons_zero, List.set_cons_succ, Option.map_some, Nat.sub_self, Nat.zero_add, Nat.reduceAdd, Nat.reduceSub, List.take_length, Bool.not_true, Bool.not_false, if_true, if_false, ite_true, ite_false, reduceIte, reduceCtorEq, Bool.false_eq_true, oIsi, tyD, tyP, tyA, clsP, clsPs, ansAny, tupOf, lstOf, seqOf, strOf, intOf, dicOf, oLen, bChain, o2b, PF.sizeLine_eq, Nat.reduceLeDiff, Int.reduceLE, Int.reduceLT, decide_true, decide_false, bAlt, mAlt, oAlt, bSeq, bSigns, pureSeq, oIn_v, oInSeq, oInS, oDin, pyD, pyOf, pyOfs, PF.dicKey, oSub_v, oIx, oDget, o2eq, and_self, true_and, and_true, Nx, Gt, Option.isSome_some, Option.isSome_none, isTupD, atI_0, atI_1, PyData.eqv, PyData.eqvAll, shaped_int, Int.reduceBEq, bNeg, Int.reduceNeg, o2sb, bEnum, bSl, bPart, bNoPart, Option.some.injEq, forall_const, lkP, snoc_get, snoc_set, List.take_left, oIsNot, oIs, isNon, bDnew, sDput_v, endPut, dKey_str, dKey_lk, bFld, insOf, bStar, oTuple, putAt, oSorted, colP, pures_snoc, snoc_get2, snoc_take, bCV, bFrz, frzD, sFld_v, endFld, putFP, List.mem_cons, List.not_mem_nil, or_false, true_or, or_true, lk_1, lk_2, lk_22, lk_3, lk_32, lk_33, n_12, n_13, n_23, Nat.reduceLT, bMk, bMkV, bMeth, oListZip, oSl_tup_from1, oSl_tup_to1, oPlus_v, oAdd, oCatL, oCatT, frozen, eqvAll_ns, eqvAll_ls, List.map_id, lkn_has, bCM, bSM, List.drop_succ_cons, List.drop_zero, List.take_succ_cons, List.take_zero, oList, oOwn, oOwnNe, bProp, valF, lAlt, oLenO, oAll, bDic, bGet2, rIsD, lkF_1, lkF_2, lkF_3, lkF_has, lkF_nodes, lkF_links, lkF_size, gTpL, atI_2, atI_3, *])
variable {ans : Value → Value → Option Bool} {C : Addr} {A : AH}
theorem law_is_v (h : An ans C) {ns : List Str} {ls ks : List (Str × Str)} (o : Ok ns ls) (hk : ks.Perm (nrm ltS ls)) : F__law_is C ans [.p (net C ns ls), .p (.lst (nsP ns)), .p (.lst (lsP ks))] A = some (.val (.p (.bl true)) A) := by
  have m1 := nodes_v (C := C) (A := A) (ns := sortS ns) (ls := sortL (nrm ltS ls))
  have m2 := links_v (C := C) (A := A) (ns := sortS ns) (ls := sortL (nrm ltS ls))
  have m3 := size_v (C := C) (A := A) (ns := sortS ns) (ls := sortL (nrm ltS ls))
  have m4 : FR_Net___len__ C [.p (.obj C (netF (sortS ns) (sortL (nrm ltS ls))))] A = some (.val (.p (.int (sortS ns).length)) A) := by
    unfold FR_Net___len__; exact len_v
  have e1 : nrm ltS ks = ks := by
    have : ∀ p ∈ ks, iq p = p := fun p hp => by
      obtain ⟨q, _, rfl⟩ := nrm_mem (hk.mem_iff.mp hp)
      exact inq_inq ltS_ord q
    conv => rhs; rw [← List.map_id ks]
    exact List.map_congr_left this
  have e2 : (nrm ltS ls).Perm (nrm ltS ks) := by rw [e1]; exact hk.symm
  have mk := mk_l (A := A) h (o.perm (.refl _) e2)
  rw [← sortL_eq e2] at mk
  have p1 := sortP_ns ns
  have p2 := sortP_ls ks
  rw [sortL_eq hk] at p2
  have l1 : ks.length = (sortL (nrm ltS ls)).length := by rw [o.lens.2, hk.length_eq, List.length_map]
  have l2 : ns.length = (sortS ns).length := o.lens.1.symm
  have l3 : (sortS ns).length ≤ 60 := by rw [o.lens.1]; exact o.hn
  have l4 : (sortL (nrm ltS ls)).length ≤ 120 := by rw [o.lens.2]; exact o.hl
  obtain ⟨s, rp⟩ := repr_told (ns := sortS ns) (L := sortL (nrm ltS ls)) (i := (sortL (nrm ltS ls)).length) (j := (sortS ns).length) o.nmS (fun p hp => ⟨o.nmS _ (o.mem p hp).1, o.nmS _ (o.mem p hp).2.1⟩) (by omega) (by omega) (by omega) (by omega)
  have eq := eq_pr (A := A ++ [some (.ins C (netF (sortS ns) (sortL (nrm ltS ls))))]) h o.nmS o.mem (i := A.length) (snoc_get _ _)
  have eq : FR_Net___eq__ C ans [.p (.obj C (netF (sortS ns) (sortL (nrm ltS ls)))), .ref A.length] (A ++ [some (.ins C (netF (sortS ns) (sortL (nrm ltS ls))))]) = some (.val (.p (.bl true)) (A ++ [some (.ins C (netF (sortS ns) (sortL (nrm ltS ls))))])) := eq
  have g1 : (0 : Int) ≤ ((sortS ns).length : Int) := by omega
  have g2 : ((sortS ns).length : Int) < 2 ^ 62 := by
    have : (2 : Int) ^ 62 = 4611686018427387904 := by decide
    omega
  obtain ⟨h1, h2, h3, h4, h5⟩ := h
  clear e1 e2 hk
  unfold F__law_is B__law_is net
  walk_at "start"
  walk_at "st"
  walk_at "st"
  walk_at "ev"
end PF.k19

/-! text M12 -/
set_option Elab.async false
set_option linter.all false
set_option maxRecDepth 100000
namespace PF.k19
open PySem L2 PySem.Spec PyProof.Rows
local macro_rules | `(tactic| walk_at "ev") => `(tactic| simp only [wp_nx, wp_rt, sSeq, fin, sIf, sRet_v, sThen, sSet_v, sAsg_v, sExpr_v, sSkip, sBreak, gNm, gTp, gCs, gNl, bVar, bC, bOp, bTest, bAnd, bOr, bNot, bIf, bOfT, bAndV, bOrV, bNil, bCons, bCall, bCB, bTup, bLst, pures, M.bind, M.ret, M.need, M.stuck, List.map_cons, List.map_nil, List.replicate, List.length_cons, List.length_nil, List.length_map, List.cons_append, List.nil_append, List.append_nil, List.getElem?_cons_zero, List.getElem?_cons_succ, List.set_cons_zero, List.set_cons_succ, Option.map_some, Nat.sub_self, Nat.zero_add, Nat.reduceAdd, Nat.reduceSub, List.take_length, Bool.not_true, Bool.not_false, if_true, if_false, ite_true, ite_false, reduceIte, reduceCtorEq, Bool.false_eq_true, oIsi, tyD, tyP, tyA, clsP, clsPs, ansAny, tupOf, lstOf, seqOf, strOf, intOf, dicOf, oLen, bChain, o2b, PF.sizeLine_eq, Nat.reduceLeDiff, Int.reduceLE, Int.reduceLT, decide_true, decide_false, bAlt, mAlt, oAlt, bSeq, bSigns, pureSeq, oIn_v, oInSeq, oInS, oDin, pyD, pyOf, pyOfs, PF.dicKey, oSub_v, oIx, oDget, o2eq, and_self, true_and, and_true, Nx, Gt, Option.isSome_some, Option.isSome_none, isTupD, atI_0, atI_1, PyData.eqv, PyData.eqvAll, shaped_int, Int.reduceBEq, bNeg, Int.reduceNeg, o2sb, bEnum, bSl, bPart, bNoPart, Option.some.injEq, forall_const, lkP, snoc_get, snoc_set, List.take_left, oIsNot, oIs, isNon, bDnew, sDput_v, endPut, dKey_str, dKey_lk, bFld, insOf, bStar, oTuple, putAt, oSorted, colP, pures_snoc, snoc_get2, snoc_take, bCV, bFrz, frzD, sFld_v, endFld, putFP, List.mem_cons, List.not_mem_nil, or_false, true_or, or_true, lk_1, lk_2, lk_22, lk_3, lk_32, lk_33, n_12, n_13, n_23, Nat.reduceLT, bMk, bMkV, bMeth, oListZip, oSl_tup_from1, oSl_tup_to1, oPlus_v, oAdd, oCatL, oCatT, frozen, eqvAll_ns, eqvAll_ls, List.map_id, lkn_has, bCM, bSM, List.drop_succ_cons, List.drop_zero, List.take_succ_cons, List.take_zero, oList, oOwn, oOwnNe, bProp, valF, lAlt, oLenO, oAll, bDic, bGet2, rIsD, lkF_1, lkF_2, lkF_3, lkF_has, lkF_nodes, lkF_links, lkF_size, gTpL, atI_2, atI_3, *])
local macro_rules | `(tactic| walk_at "st") => `(tactic| (refine wp_seq fun k hk => ?_; walk_at "ev"; refine hk.out _ _ ?_; clear hk k))
local macro_rules | `(tactic| walk_at "start") => `(tactic| (refine defF_wp rfl ?_; simp only [startD, List.map_cons, List.map_nil, List.length_cons, List.length_nil, Nat.zero_add, Nat.reduceAdd, Nat.reduceSub, List.replicate, List.cons_append, List.nil_append, List.append_nil]))
/-! M12: path, ring, full of the first so many names -/
variable {ans : Value → Value → Option Bool} {C : Addr} {A : AH}
theorem fr_path (h : An ans C) {ns : List Str} (n : Ns ns) : FR_Net_path C ans (.p (.rf C) :: (nsP ns).map .p) A = some (.val (.p (net C ns (pathL ns))) A) := by
  unfold FR_Net_path starF
  have e : ns.length ≤ sizeLine := by rw [PF.sizeLine_eq]; have := n.h7; omega
  simp only [List.drop_succ_cons, List.drop_zero, pures_map, List.length_cons, List.length_map, List.take_succ_cons, List.take_zero, Nat.le_add_left, e, and_self, if_true, List.cons_append, List.nil_append]
  exact path_v h n
theorem fr_full (h : An ans C) {ns : List Str} (n : Ns ns) : FR_Net_full C ans (.p (.rf C) :: (nsP ns).map .p) A = some (.val (.p (net C ns (fullL ns))) A) := by
  unfold FR_Net_full starF
  have e : ns.length ≤ sizeLine := by rw [PF.sizeLine_eq]; have := n.h7; omega
  simp only [List.drop_succ_cons, List.drop_zero, pures_map, List.length_cons, List.length_map, List.take_succ_cons, List.take_zero, Nat.le_add_left, e, and_self, if_true, List.cons_append, List.nil_append]
  exact full_v h n
theorem fr_ring (h : An ans C) {ns : List Str} (n : Ns ns) (h3 : 3 ≤ ns.length) : FR_Net_ring C ans (.p (.rf C) :: (nsP ns).map .p) A = some (.val (.p (net C ns (ringL ns))) A) := by
  unfold FR_Net_ring starF
  have e : ns.length ≤ sizeLine := by rw [PF.sizeLine_eq]; have := n.h7; omega
  simp only [List.drop_succ_cons, List.drop_zero, pures_map, List.length_cons, List.length_map, List.take_succ_cons, List.take_zero, Nat.le_add_left, e, and_self, if_true, List.cons_append, List.nil_append]
  exact ring_v h n h3
def threeP (C : Addr) (xs : List Str) : P := .lst [net C xs (pathL xs), if xs.length < 3 then .non else net C xs (ringL xs), net C xs (fullL xs)]
theorem three_1 (h : An ans C) {a : Str} {r : List Str} (n : Ns [a]) : F__law_three C ans [.p (.lst (nsP (a :: r))), .p (.int 1)] A = some (.val (.p (threeP C [a])) A) := by
  have e1 := fr_path (A := A) h n
  have e2 := fr_full (A := A) h n
  have sl := oSl_lst_to (xs := nsP (a :: r)) (k := 1) (A := A)
  have sl : oSl (.p (.lst (nsP (a :: r)))) none (some 1) A = some (.val (.p (.lst (nsP [a]))) A) := sl
  simp only [nsP, List.map_cons, List.map_nil] at e1 e2 sl ⊢
  unfold F__law_three B__law_three threeP
  walk_at "start"
  walk_at "st"
  refine wp_seq fun k hk => ?_
  walk_at "ev"
theorem three_2 (h : An ans C) {a b : Str} {r : List Str} (n : Ns [a, b]) : F__law_three C ans [.p (.lst (nsP (a :: b :: r))), .p (.int 2)] A = some (.val (.p (threeP C [a, b])) A) := by
  have e1 := fr_path (A := A) h n
  have e2 := fr_full (A := A) h n
  have sl := oSl_lst_to (xs := nsP (a :: b :: r)) (k := 2) (A := A)
  have sl : oSl (.p (.lst (nsP (a :: b :: r)))) none (some 2) A = some (.val (.p (.lst (nsP [a, b]))) A) := sl
  simp only [nsP, List.map_cons, List.map_nil] at e1 e2 sl ⊢
  unfold F__law_three B__law_three threeP
  walk_at "start"
  walk_at "st"
  walk_at "st"
  refine wp_seq fun k hk => ?_
  walk_at "ev"
theorem three_3 (h : An ans C) {a b c : Str} {r : List Str} (n : Ns [a, b, c]) : F__law_three C ans [.p (.lst (nsP (a :: b :: c :: r))), .p (.int 3)] A = some (.val (.p (threeP C [a, b, c])) A) := by
  have e1 := fr_path (A := A) h n
  have e2 := fr_full (A := A) h n
  have e3 := fr_ring (A := A) h n (by simp)
  have sl := oSl_lst_to (xs := nsP (a :: b :: c :: r)) (k := 3) (A := A)
  have sl : oSl (.p (.lst (nsP (a :: b :: c :: r)))) none (some 3) A = some (.val (.p (.lst (nsP [a, b, c]))) A) := sl
  simp only [nsP, List.map_cons, List.map_nil] at e1 e2 e3 sl ⊢
  unfold F__law_three B__law_three threeP
  walk_at "start"
  walk_at "st"
  walk_at "st"
  walk_at "st"
  refine wp_seq fun k hk => ?_
  walk_at "ev"
theorem three_4 (h : An ans C) {a b c d : Str} {r : List Str} (n : Ns [a, b, c, d]) : F__law_three C ans [.p (.lst (nsP (a :: b :: c :: d :: r))), .p (.int 4)] A = some (.val (.p (threeP C [a, b, c, d])) A) := by
  have e1 := fr_path (A := A) h n
  have e2 := fr_full (A := A) h n
  have e3 := fr_ring (A := A) h n (by simp)
  have sl := oSl_lst_to (xs := nsP (a :: b :: c :: d :: r)) (k := 4) (A := A)
  have sl : oSl (.p (.lst (nsP (a :: b :: c :: d :: r)))) none (some 4) A = some (.val (.p (.lst (nsP [a, b, c, d]))) A) := sl
  simp only [nsP, List.map_cons, List.map_nil] at e1 e2 e3 sl ⊢
  unfold F__law_three B__law_three threeP
  walk_at "start"
  walk_at "st"
  walk_at "st"
  walk_at "st"
  walk_at "st"
  refine wp_seq fun k hk => ?_
  walk_at "ev"
theorem three_5 (h : An ans C) {a b c d e : Str} {r : List Str} (n : Ns [a, b, c, d, e]) : F__law_three C ans [.p (.lst (nsP (a :: b :: c :: d :: e :: r))), .p (.int 5)] A = some (.val (.p (threeP C [a, b, c, d, e])) A) := by
  have e1 := fr_path (A := A) h n
  have e2 := fr_full (A := A) h n
  have e3 := fr_ring (A := A) h n (by simp)
  have sl := oSl_lst_to (xs := nsP (a :: b :: c :: d :: e :: r)) (k := 5) (A := A)
  have sl : oSl (.p (.lst (nsP (a :: b :: c :: d :: e :: r)))) none (some 5) A = some (.val (.p (.lst (nsP [a, b, c, d, e]))) A) := sl
  simp only [nsP, List.map_cons, List.map_nil] at e1 e2 e3 sl ⊢
  unfold F__law_three B__law_three threeP
  walk_at "start"
  walk_at "st"
  walk_at "st"
  walk_at "st"
  walk_at "st"
  walk_at "st"
  refine wp_seq fun k hk => ?_
  walk_at "ev"
theorem three_6 (h : An ans C) {a b c d e f : Str} {r : List Str} (n : Ns [a, b, c, d, e, f]) : F__law_three C ans [.p (.lst (nsP (a :: b :: c :: d :: e :: f :: r))), .p (.int 6)] A = some (.val (.p (threeP C [a, b, c, d, e, f])) A) := by
  have e1 := fr_path (A := A) h n
  have e2 := fr_full (A := A) h n
  have e3 := fr_ring (A := A) h n (by simp)
  have sl := oSl_lst_to (xs := nsP (a :: b :: c :: d :: e :: f :: r)) (k := 6) (A := A)
  have sl : oSl (.p (.lst (nsP (a :: b :: c :: d :: e :: f :: r)))) none (some 6) A = some (.val (.p (.lst (nsP [a, b, c, d, e, f]))) A) := sl
  simp only [nsP, List.map_cons, List.map_nil] at e1 e2 e3 sl ⊢
  unfold F__law_three B__law_three threeP
  walk_at "start"
  walk_at "st"
  walk_at "st"
  walk_at "st"
  walk_at "st"
  walk_at "st"
  walk_at "st"
  refine wp_seq fun k hk => ?_
  walk_at "ev"
theorem three_7 (h : An ans C) {a b c d e f g : Str} {r : List Str} (n : Ns [a, b, c, d, e, f, g]) : F__law_three C ans [.p (.lst (nsP (a :: b :: c :: d :: e :: f :: g :: r))), .p (.int 7)] A = some (.val (.p (threeP C [a, b, c, d, e, f, g])) A) := by
  have e1 := fr_path (A := A) h n
  have e2 := fr_full (A := A) h n
  have e3 := fr_ring (A := A) h n (by simp)
  have sl := oSl_lst_to (xs := nsP (a :: b :: c :: d :: e :: f :: g :: r)) (k := 7) (A := A)
  have sl : oSl (.p (.lst (nsP (a :: b :: c :: d :: e :: f :: g :: r)))) none (some 7) A = some (.val (.p (.lst (nsP [a, b, c, d, e, f, g]))) A) := sl
  simp only [nsP, List.map_cons, List.map_nil] at e1 e2 e3 sl ⊢
  unfold F__law_three B__law_three threeP
  walk_at "start"
  walk_at "st"
  walk_at "st"
  walk_at "st"
  walk_at "st"
  walk_at "st"
  walk_at "st"
  walk_at "st"
  walk_at "ev"
theorem three_v (h : An ans C) {ys : List Str} {k : Nat} (h1 : 1 ≤ k) (h7 : k ≤ 7) (hl : k ≤ ys.length) (n : Ns (ys.take k)) : F__law_three C ans [.p (.lst (nsP ys)), .p (.int k)] A = some (.val (.p (threeP C (ys.take k))) A) := by
  match k, h1, h7, ys, hl, n with
  | 1, _, _, a :: r, _, n => exact three_1 h n
  | 2, _, _, a :: b :: r, _, n => exact three_2 h n
  | 3, _, _, a :: b :: c :: r, _, n => exact three_3 h n
  | 4, _, _, a :: b :: c :: d :: r, _, n => exact three_4 h n
  | 5, _, _, a :: b :: c :: d :: e :: r, _, n => exact three_5 h n
  | 6, _, _, a :: b :: c :: d :: e :: f :: r, _, n => exact three_6 h n
  | 7, _, _, a :: b :: c :: d :: e :: f :: g :: r, _, n => exact three_7 h n
end PF.k19

/-! text M13 -/
set_option Elab.async false
set_option linter.all false
set_option maxRecDepth 100000
namespace PF.k19
open PySem L2 PySem.Spec PyProof.Rows

local macro_rules | `(tactic| walk_at "st") => `(tactic| (refine wp_seq fun k hk => ?_; walk_at "ev"; refine hk.out _ _ ?_; clear hk k))
local macro_rules | `(tactic| walk_at "start") => `(tactic| (refine defF_wp rfl ?_; simp only [startD, List.map_cons, List.map_nil, List.length_cons, List.length_nil, Nat.zero_add, Nat.reduceAdd, Nat.reduceSub, List.replicate, List.cons_append, List.nil_append, List.append_nil]))
/-! M13: draws -/
theorem ixN_20 : ixN 2 0 = some 0 := rfl
theorem ixN_21 : ixN 2 1 = some 1 := rfl
theorem take_set {α : Type} (A : List α) (j : Nat) (x : α) : (A.set j x).take A.length = A.set j x := List.take_of_length_le (by simp)
theorem sTwo_v {i j : Nat} {f g : BE} {σ : EnvD} {A : AH} : sTwo i j f g σ A = sThen f (fun d => sThen g fun d' σ A => some (.nx ((σ.set i (some d)).set j (some d')) A)) σ A := rfl
/-- a pot of numbers -/
def Pot (A : AH) (j : Nat) : Prop := ∃ a b : Int, A[j]? = some (some (.lst [.int a, .int b])) ∧ 0 ≤ a ∧ 0 ≤ b ∧ b < 2147483587
/-- only the pot has changed -/
def St (j : Nat) (A B : AH) : Prop := ∃ o, B = A.set j o ∧ Pot B j
theorem Pot.lt {A : AH} {j : Nat} (h : Pot A j) : j < A.length := by
  obtain ⟨a, b, e, _⟩ := h
  exact (List.getElem?_eq_some_iff.mp e).1
theorem St.refl {A : AH} {j : Nat} (h : Pot A j) : St j A A := by
  have h' := h
  obtain ⟨a, b, e, _⟩ := h
  obtain ⟨hl, e⟩ := List.getElem?_eq_some_iff.mp e
  exact ⟨A[j], (List.set_getElem_self hl).symm, h'⟩
theorem St.trans {A B D : AH} {j : Nat} (h1 : St j A B) (h2 : St j B D) : St j A D := by
  obtain ⟨o, rfl, _⟩ := h1
  obtain ⟨u, rfl, h⟩ := h2
  rw [List.set_set] at *
  exact ⟨u, rfl, h⟩
theorem St.pot {A B : AH} {j : Nat} (h : St j A B) : Pot B j := let ⟨_, _, h⟩ := h; h
theorem St.len {A B : AH} {j : Nat} (h : St j A B) : B.length = A.length := by
  obtain ⟨o, rfl, _⟩ := h; simp
theorem Pot.app {A : AH} {j : Nat} (h : Pot A j) (x : List (Option AO)) : Pot (A ++ x) j := by
  have hl := h.lt
  obtain ⟨a, b, e, r⟩ := h
  exact ⟨a, b, by rw [List.getElem?_append_left hl]; exact e, r⟩
theorem Pot.cut {A : AH} {j : Nat} {x : List (Option AO)} (h : Pot (A ++ x) j) (hl : j < A.length) : Pot A j := by
  obtain ⟨a, b, e, r⟩ := h
  rw [List.getElem?_append_left hl] at e
  exact ⟨a, b, e, r⟩
/-- behind further objects -/
theorem St.cut {A B : AH} {j : Nat} {x : List (Option AO)} (hl : j < A.length) (h : St j (A ++ x) B) : ∃ A', B = A' ++ x ∧ St j A A' := by
  obtain ⟨o, rfl, hp⟩ := h
  rw [List.set_append_left _ _ hl] at hp ⊢
  exact ⟨_, rfl, o, rfl, hp.cut (by simpa using hl)⟩
theorem mulW {i j : Int} (hi : i.natAbs < 2 ^ 400) (hj : j.natAbs < 2 ^ 400) : CMulW i j := wide_mul hi hj (by decide) (by decide) (by decide)
theorem lt400 {i : Int} (h0 : 0 ≤ i) (h : i < 10000000000000000000000000) : i.natAbs < 2 ^ 400 := by
  have e : (10000000000000000000000000 : Nat) ≤ 2 ^ 400 := by decide +kernel
  omega
theorem divP {i j : Int} (h0 : 0 < j) (h : j ≤ 1000) : CDivP i j := by
  refine ⟨h0, ?_⟩
  unfold Builtin.divisionGoesByPylong
  have h1 : j.natAbs.log2 ≤ j.natAbs := Nat.log2_le_self _
  have h2 : j.natAbs ≤ 1000 := by omega
  have h3 : j.natAbs.log2 / 30 + 1 ≤ 300 := by omega
  have h4 : (j == 0) = false := by
    have : j ≠ 0 := by omega
    simpa using this
  simp only [h4, Bool.false_eq_true, if_false]
  rw [decide_eq_false (by omega)]
  rfl
local macro_rules | `(tactic| walk_at "ev") => `(tactic| simp only [wp_nx, wp_rt, sSeq, fin, sIf, sRet_v, sThen, sSet_v, sAsg_v, sExpr_v, sSkip, sBreak, gNm, gTp, gCs, gNl, bVar, bC, bOp, bTest, bAnd, bOr, bNot, bIf, bOfT, bAndV, bOrV, bNil, bCons, bCall, bCB, bTup, bLst, pures, M.bind, M.ret, M.need, M.stuck, List.map_cons, List.map_nil, List.replicate, List.length_cons, List.length_nil, List.length_map, List.cons_append, List.nil_append, List.append_nil, List.getElem?_cons_zero, List.getElem?_cons_succ, List.set_cons_zero, List.set_cons_succ, Option.map_some, Nat.sub_self, Nat.zero_add, Nat.reduceAdd, Nat.reduceSub, List.take_length, Bool.not_true, Bool.not_false, if_true, if_false, ite_true, ite_false, reduceIte, reduceCtorEq, Bool.false_eq_true, oIsi, tyD, tyP, tyA, clsP, clsPs, ansAny, tupOf, lstOf, seqOf, strOf, intOf, dicOf, oLen, bChain, o2b, PF.sizeLine_eq, Nat.reduceLeDiff, Int.reduceLE, Int.reduceLT, decide_true, decide_false, bAlt, mAlt, oAlt, bSeq, bSigns, pureSeq, oIn_v, oInSeq, oInS, oDin, pyD, pyOf, pyOfs, PF.dicKey, oSub_v, oIx, oDget, o2eq, and_self, true_and, and_true, Nx, Gt, Option.isSome_some, Option.isSome_none, isTupD, atI_0, atI_1, PyData.eqv, PyData.eqvAll, shaped_int, Int.reduceBEq, bNeg, Int.reduceNeg, o2sb, bEnum, bSl, bPart, bNoPart, Option.some.injEq, forall_const, lkP, snoc_get, snoc_set, List.take_left, oIsNot, oIs, isNon, bDnew, sDput_v, endPut, dKey_str, dKey_lk, bFld, insOf, bStar, oTuple, putAt, oSorted, colP, pures_snoc, snoc_get2, snoc_take, bCV, bFrz, frzD, sFld_v, endFld, putFP, List.mem_cons, List.not_mem_nil, or_false, true_or, or_true, lk_1, lk_2, lk_22, lk_3, lk_32, lk_33, n_12, n_13, n_23, Nat.reduceLT, bMk, bMkV, bMeth, oListZip, oSl_tup_from1, oSl_tup_to1, oPlus_v, oAdd, oCatL, oCatT, frozen, eqvAll_ns, eqvAll_ls, List.map_id, lkn_has, bCM, bSM, List.drop_succ_cons, List.drop_zero, List.take_succ_cons, List.take_zero, oList, oOwn, oOwnNe, bProp, valF, lAlt, oLenO, oAll, bDic, bGet2, rIsD, lkF_1, lkF_2, lkF_3, lkF_has, lkF_nodes, lkF_links, lkF_size, gTpL, atI_2, atI_3, gIxL, ixN_20, ixN_21, oDivmod, o2i, oInt1, take_set, Int.reduceAdd, Int.reduceMul, Int.reduceSub, Int.reduceMod, Int.reduceDiv, sTwo_v, bRev, bLstM, bBM, gExtend, gAppend, isLst, *])
variable {ans : Value → Value → Option Bool} {C : Addr} {A : AH}
theorem draw_v {j n : Nat} (h : Pot A j) (hn : 0 < n) (hn2 : n ≤ 1000) : ∃ (d : Nat) (B : AH), d < n ∧ St j A B ∧ F__law_draw [.ref j, .p (.int n)] A = some (.val (.p (.int d)) B) := by
  have hl := h.lt
  obtain ⟨a, b, e, ha, hb, hb2⟩ := h
  have hs : ∀ x, (A.set j x)[j]? = some x := fun x => by rw [List.getElem?_set_self hl]
  have n0 : (0 : Int) < (n : Int) := by omega
  by_cases pa : 0 < a
  · have hm0 := Int.emod_nonneg a (show (n : Int) ≠ 0 by omega)
    have hm1 := Int.emod_lt_of_pos a n0
    have hc : CDivP a (n : Int) := divP n0 (by omega)
    refine ⟨(a % n).toNat, A.set j (some (.lst [.int (a / n), .int b])), by omega, ⟨_, rfl, a / n, b, hs _, Int.ediv_nonneg ha (by omega), hb, hb2⟩, ?_⟩
    have ec : (((a % n).toNat : Nat) : Int) = a % n := by omega
    rw [ec]
    have b1 : decide (0 < a) = true := decide_eq_true pa
    unfold F__law_draw B__law_draw
    walk_at "start"
    refine wp_seq fun k hk => ?_
    clear ec hm0 hm1 pa
    walk_at "ev"
  · have b1 : decide (0 < a) = false := decide_eq_false pa
    have z1 : 0 ≤ (b * 48271 + 12161) % 2147483587 := Int.emod_nonneg _ (by decide)
    have z2 : (b * 48271 + 12161) % 2147483587 < 2147483587 := Int.emod_lt_of_pos _ (by decide)
    have c1 : CMulW b 48271 := mulW (lt400 hb (by omega)) (lt400 (by omega) (by omega))
    generalize hz : (b * 48271 + 12161) % 2147483587 = z at z1 z2
    have c2 : CMulW z z := mulW (lt400 z1 (by omega)) (lt400 z1 (by omega))
    have c3 : CDivW (z * z % 2147483549) 13 := ⟨by decide, by decide +kernel⟩
    have hm0 := Int.emod_nonneg (z * z % 2147483549 / 13) (show (n : Int) ≠ 0 by omega)
    have hm1 := Int.emod_lt_of_pos (z * z % 2147483549 / 13) n0
    refine ⟨(z * z % 2147483549 / 13 % n).toNat, A.set j (some (.lst [.int a, .int z])), by omega, ⟨_, rfl, a, z, hs _, ha, z1, z2⟩, ?_⟩
    have ec : (((z * z % 2147483549 / 13 % n).toNat : Nat) : Int) = z * z % 2147483549 / 13 % n := by omega
    rw [ec]
    clear ec hm0 hm1 pa z1 z2
    unfold F__law_draw B__law_draw
    walk_at "start"
    walk_at "st"
    walk_at "st"
    walk_at "ev"
end PF.k19

/-! text M14 -/
set_option Elab.async false
set_option linter.all false
set_option maxRecDepth 100000
namespace PF.k19
open PySem L2 PySem.Spec PyProof.Rows

local macro_rules | `(tactic| walk_at "st") => `(tactic| (refine wp_seq fun k hk => ?_; walk_at "ev"; refine hk.out _ _ ?_; clear hk k))
local macro_rules | `(tactic| walk_at "start") => `(tactic| (refine defF_wp rfl ?_; simp only [startD, List.map_cons, List.map_nil, List.length_cons, List.length_nil, Nat.zero_add, Nat.reduceAdd, Nat.reduceSub, List.replicate, List.cons_append, List.nil_append, List.append_nil]))
/-! M14: one size -/
theorem oSl_lst_from1 {xs : List P} {A : AH} : oSl (.p (.lst xs)) (some 1) none A = some (.val (.p (.lst (xs.drop 1))) A) := oSl_lst_from (k := 1)
theorem lkF_part (ns : List Str) (ls : List (Str × Str)) : List.lookup ("is_part_of" : Str) (netF ns ls) = none := lkF_gen (by decide +kernel) (by decide +kernel) (by decide +kernel) ns ls
theorem lkF_drawn (ns : List Str) (ls : List (Str × Str)) : List.lookup ("drawn_together" : Str) (netF ns ls) = none := lkF_gen (by decide +kernel) (by decide +kernel) (by decide +kernel) ns ls
theorem mapLk_id (ls : List (Str × Str)) : (lsP ls).map (mapLk fun z => z) = lsP (nrm ltS ls) := by
  simp only [lsP, nrm, List.map_map]; rfl
def pairY (y : Str) (x : P) : P := match x with
  | .str x => lkP (iq (y, x))
  | _ => .non
theorem pairY_ns (y : Str) (ns : List Str) : (nsP ns).map (pairY y) = lsP (nrm ltS (ns.map fun x => (y, x))) := by
  simp only [nsP, lsP, nrm, List.map_map]; rfl
theorem backL_len (r pre : List Str) : (backL pre r).length ≤ r.length * (pre.length + r.length) := by
  induction r generalizing pre with
  | nil => simp [backL]
  | cons y r ih =>
    have := ih (pre ++ [y])
    simp only [backL, List.length_append, List.length_map, List.length_cons, List.length_nil] at this ⊢
    rw [Nat.add_mul]
    have e : pre.length + (0 + 1) + r.length = pre.length + (r.length + 1) := by omega
    rw [e] at this
    omega
local macro_rules | `(tactic| walk_at "ev") => `(tactic| simp only [wp_nx, wp_rt, sSeq, fin, sIf, sRet_v, sThen, sSet_v, sAsg_v, sExpr_v, sSkip, sBreak, gNm, gTp, gCs, gNl, bVar, bC, bOp, bTest, bAnd, bOr, bNot, bIf, bOfT, bAndV, bOrV, bNil, bCons, bCall, bCB, bTup, bLst, pures, M.bind, M.ret, M.need, M.stuck, List.map_cons, List.map_nil, List.replicate, List.length_cons, List.length_nil, List.length_map, List.cons_append, List.nil_append, List.append_nil, List.getElem?_cons_zero, List.getElem?_cons_succ, List.set_cons_zero, List.set_cons_succ, Option.map_some, Nat.sub_self, Nat.zero_add, Nat.reduceAdd, Nat.reduceSub, List.take_length, Bool.not_true, Bool.not_false, if_true, if_false, ite_true, ite_false, reduceIte, reduceCtorEq, Bool.false_eq_true, oIsi, tyD, tyP, tyA, clsP, clsPs, ansAny, tupOf, lstOf, seqOf, strOf, intOf, dicOf, oLen, bChain, o2b, PF.sizeLine_eq, Nat.reduceLeDiff, Int.reduceLE, Int.reduceLT, decide_true, decide_false, bAlt, mAlt, oAlt, bSeq, bSigns, pureSeq, oIn_v, oInSeq, oInS, oDin, pyD, pyOf, pyOfs, PF.dicKey, oSub_v, oIx, oDget, o2eq, and_self, true_and, and_true, Nx, Gt, Option.isSome_some, Option.isSome_none, isTupD, atI_0, atI_1, PyData.eqv, PyData.eqvAll, shaped_int, Int.reduceBEq, bNeg, Int.reduceNeg, o2sb, bEnum, bSl, bPart, bNoPart, Option.some.injEq, forall_const, lkP, snoc_get, snoc_set, List.take_left, oIsNot, oIs, isNon, bDnew, sDput_v, endPut, dKey_str, dKey_lk, bFld, insOf, bStar, oTuple, putAt, oSorted, colP, pures_snoc, snoc_get2, snoc_take, bCV, bFrz, frzD, sFld_v, endFld, putFP, List.mem_cons, List.not_mem_nil, or_false, true_or, or_true, lk_1, lk_2, lk_22, lk_3, lk_32, lk_33, n_12, n_13, n_23, Nat.reduceLT, bMk, bMkV, bMeth, oListZip, oSl_tup_from1, oSl_tup_to1, oPlus_v, oAdd, oCatL, oCatT, frozen, eqvAll_ns, eqvAll_ls, List.map_id, lkn_has, bCM, bSM, List.drop_succ_cons, List.drop_zero, List.take_succ_cons, List.take_zero, oList, oOwn, oOwnNe, bProp, valF, lAlt, oLenO, oAll, bDic, bGet2, rIsD, lkF_1, lkF_2, lkF_3, lkF_has, lkF_nodes, lkF_links, lkF_size, gTpL, atI_2, atI_3, gIxL, ixN_20, ixN_21, oDivmod, o2i, oInt1, take_set, Int.reduceAdd, Int.reduceMul, Int.reduceSub, Int.reduceMod, Int.reduceDiv, sTwo_v, bRev, bLstM, bBM, gExtend, gAppend, isLst, lkF_part, lkF_drawn, oOwnT, atI_m1, bZip, oMin2, oSl_lst_from1, *])
variable {ans : Value → Value → Option Bool} {C : Addr} {A : AH}
theorem pairs_lc {xs : List Str} (n : Ns xs) {v0 v1 v2 v4 v5 v6 v7 v8 v9 v10 v11 v12 v13 : Option D} :
    (bLc (bZip (bCons (bVar 3) (bCons (bSl (bVar 3) (bPart (bC (.int 1))) bNoPart) bNil))) (gTp 2 (gCs (gNm 8) (gCs (gNm 11) gNl))) bYes (bCall F__law_link [] (bCons (bVar 8) (bCons (bVar 11) bNil))) [8, 11])
      [v0, v1, v2, some (.p (.lst (nsP xs))), v4, v5, v6, v7, v8, v9, v10, v11, v12, v13] A = some (.val (.p (.lst (lsP (nrm ltS (pathL xs))))) A) := by
  rw [← mapLk_id]
  have z := zipP_path xs
  refine bLc_map (xs := lsP (pathL xs)) _ (by walk_at "ev") (by rw [PF.sizeLine_eq, List.length_map]; have := pathL_len xs; have := n.h7; omega) ?_
  intro x hx acc
  obtain ⟨⟨a, b⟩, hp, rfl⟩ := List.mem_map.mp hx
  have hl := law_link_v (A := A ++ [some (.lst acc)]) (pathL_ne n.nd hp)
  clear z hx hp
  refine ⟨_, rfl, ?_⟩
  simp only [wipeD, mapLk, lkP] at hl ⊢
  walk_at "ev"
theorem every_v {xs : List Str} (n : Ns xs) {v0 v1 v2 v4 v5 v9 v10 v11 v12 v13 : Option D} : ∃ v w : Option D,
    (sFor (bEnum (bCons (bVar 3) bNil)) (gTp 2 (gCs (gNm 7) (gCs (gNm 8) gNl)))
      (sExpr (bBM gExtend (bVar 6) (bCons (bLc (bAlt (bSeq (bSl (bVar 3) bNoPart (bPart (bVar 7)))) (bSigns (bSl (bVar 3) bNoPart (bPart (bVar 7))))) (gNm 11) bYes (bCall F__law_link [] (bCons (bVar 8) (bCons (bVar 11) bNil))) [11]) bNil))))
      [v0, v1, v2, some (.p (.lst (nsP xs))), v4, v5, some (.ref A.length), none, none, v9, v10, v11, v12, v13] (A ++ [some (.lst [])]) =
    some (.nx [v0, v1, v2, some (.p (.lst (nsP xs))), v4, v5, some (.ref A.length), v, w, v9, v10, v11, v12, v13] (A ++ [some (.lst (lsP (nrm ltS (backL [] xs))))])) := by
  have it : (bEnum (bCons (bVar 3) bNil)) [v0, v1, v2, some (.p (.lst (nsP xs))), v4, v5, some (.ref A.length), none, none, v9, v10, v11, v12, v13] (A ++ [some (.lst [])]) = some (.val (enumP (nsP xs)) (A ++ [some (.lst [])])) := by walk_at "ev"
  obtain ⟨σ', A', loop, ⟨v, w, rfl⟩, acc, rfl, he, _⟩ := sFor_inv (g := (gTp 2 (gCs (gNm 7) (gCs (gNm 8) gNl)))) (b := (sExpr (bBM gExtend (bVar 6) (bCons (bLc (bAlt (bSeq (bSl (bVar 3) bNoPart (bPart (bVar 7)))) (bSigns (bSl (bVar 3) bNoPart (bPart (bVar 7))))) (gNm 11) bYes (bCall F__law_link [] (bCons (bVar 8) (bCons (bVar 11) bNil))) [11]) bNil))))
    (fun i σ B => (∃ v w : Option D, σ = [v0, v1, v2, some (.p (.lst (nsP xs))), v4, v5, some (.ref A.length), v, w, v9, v10, v11, v12, v13]) ∧ ∃ acc, B = A ++ [some (.lst (lsP (nrm ltS acc)))] ∧ acc ++ backL (xs.take i) (xs.drop i) = backL [] xs ∧ acc.length ≤ i * 100) it ⟨⟨_, _, rfl⟩, [], rfl, rfl, Nat.zero_le _⟩ (by
      rintro i x σ B hx ⟨⟨v, w, rfl⟩, acc, rfl, he, hlen⟩
      obtain ⟨y, hy, rfl⟩ := enum_ns hx
      obtain ⟨hlt, hy'⟩ := List.getElem?_eq_some_iff.mp hy
      have hnt := not_in_take n.nd hy
      have ed : xs.drop i = y :: xs.drop (i + 1) := by rw [List.drop_eq_getElem_cons hlt, hy']
      have et : xs.take (i + 1) = xs.take i ++ [y] := by rw [List.take_succ_eq_append_getElem hlt, hy']
      have h7 := n.h7
      have lc : ∀ (B : AH), (bLc (bAlt (bSeq (bSl (bVar 3) bNoPart (bPart (bVar 7)))) (bSigns (bSl (bVar 3) bNoPart (bPart (bVar 7))))) (gNm 11) bYes (bCall F__law_link [] (bCons (bVar 8) (bCons (bVar 11) bNil))) [11])
          [v0, v1, v2, some (.p (.lst (nsP xs))), v4, v5, some (.ref A.length), some (.p (.int (i : Nat))), some (.p (.str y)), v9, v10, v11, v12, v13] B = some (.val (.p (.lst (lsP (nrm ltS ((xs.take i).map fun x => (y, x)))))) B) := fun B => by
        rw [← pairY_ns]
        have sl := oSl_lst_to (xs := nsP xs) (k := i) (A := B)
        rw [← List.map_take] at sl
        refine bLc_map (xs := nsP (xs.take i)) _ (by clear it hx he; walk_at "ev") (by rw [PF.sizeLine_eq, List.length_map, List.length_take]; omega) ?_
        intro x hx acc
        obtain ⟨z, hz, rfl⟩ := List.mem_map.mp hx
        have hl := law_link_v (A := B ++ [some (.lst acc)]) (a := y) (b := z) (fun e => hnt (e ▸ hz))
        clear sl it hx he
        refine ⟨_, rfl, ?_⟩
        simp only [wipeD, pairY, lkP] at hl ⊢
        walk_at "ev"
      have l1 : acc.length + (xs.take i).length ≤ 16777216 := by rw [List.length_take]; omega
      have happ : lsP (nrm ltS acc) ++ lsP (nrm ltS ((xs.take i).map fun x => (y, x))) = lsP (nrm ltS (acc ++ (xs.take i).map fun x => (y, x))) := by
        simp only [lsP, nrm, List.map_append]
      clear it hx
      walk_at "ev"
      refine ⟨⟨_, _, rfl⟩, _, rfl, ?_, ?_⟩
      · rw [List.append_assoc, ← he, ed]; rfl
      · simp only [List.length_append, List.length_map, List.length_take]; omega)
  have e0 : (enumP (nsP xs)).length = xs.length := by unfold enumP; simp
  rw [e0, List.drop_length] at he
  have : backL (xs.take xs.length) ([] : List Str) = [] := rfl
  rw [this, List.append_nil] at he
  subst he
  exact ⟨v, w, loop⟩
theorem Ns.rev {xs : List Str} (n : Ns xs) : Ns xs.reverse := ⟨fun a h => n.nm a (List.mem_reverse.mp h), (List.reverse_perm xs).nodup_iff.mpr n.nd, fun e => n.n0 (by simpa using e), by simpa using n.h7⟩
theorem Ns.perm {xs ys : List Str} (n : Ns xs) (h : xs.Perm ys) : Ns ys := ⟨fun a ha => n.nm a (h.mem_iff.mpr ha), h.nodup_iff.mp n.nd, fun e => n.n0 (by rw [e] at h; exact h.eq_nil), by rw [← h.length_eq]; exact n.h7⟩
theorem Ns.left {a b c : Str} {r : List Str} (n : Ns (a :: b :: c :: r)) : Ns (a :: (iq (b, c)).1 :: r) := by
  have h : iq (b, c) = (b, c) ∨ iq (b, c) = (c, b) := inq_cases ltS (b, c)
  have nd := n.nd
  simp only [List.nodup_cons, List.mem_cons, not_or] at nd
  rcases h with e | e <;> rw [e]
  · refine ⟨fun x hx => n.nm x (by simp at hx ⊢; rcases hx with h | h | h <;> simp [h]), by simp only [List.nodup_cons, List.mem_cons, not_or]; exact ⟨⟨nd.1.1, nd.1.2.2⟩, nd.2.1.2, nd.2.2.2⟩, by simp, ?_⟩
    have := n.h7; simp only [List.length_cons] at this ⊢; omega
  · refine ⟨fun x hx => n.nm x (by simp at hx ⊢; rcases hx with h | h | h <;> simp [h]), by simp only [List.nodup_cons, List.mem_cons, not_or]; exact ⟨⟨nd.1.2.1, nd.1.2.2⟩, nd.2.2.1, nd.2.2.2⟩, by simp, ?_⟩
    have := n.h7; simp only [List.length_cons] at this ⊢; omega
theorem three_all (h : An ans C) {xs : List Str} {k : Nat} (hk : k = xs.length) (n : Ns xs) : F__law_three C ans [.p (.lst (nsP xs)), .p (.int k)] A = some (.val (.p (threeP C xs)) A) := by
  have h1 : 1 ≤ xs.length := List.length_pos_iff.mpr n.n0
  have e : xs.take k = xs := by rw [hk, List.take_length]
  have := three_v (A := A) h (ys := xs) (k := k) (by omega) (by have := n.h7; omega) (by omega) (by rw [e]; exact n)
  rwa [e] at this
end PF.k19

/-! text M15 -/
set_option Elab.async false
set_option linter.all false
set_option maxRecDepth 100000
namespace PF.k19
open PySem L2 PySem.Spec PyProof.Rows
local macro_rules | `(tactic| walk_at "ev") => `(tactic| simp only [wp_nx, wp_rt, sSeq, fin, sIf, sRet_v, sThen, sSet_v, sAsg_v, sExpr_v, sSkip, sBreak, gNm, gTp, gCs, gNl, bVar, bC, bOp, bTest, bAnd, bOr, bNot, bIf, bOfT, bAndV, bOrV, bNil, bCons, bCall, bCB, bTup, bLst, pures, M.bind, M.ret, M.need, M.stuck, List.map_cons, List.map_nil, List.replicate, List.length_cons, List.length_nil, List.length_map, List.cons_append, List.nil_append, List.append_nil, List.getElem?_cons_zero, List.getElem?_cons_succ, List.set_cons_zero, List.set_cons_succ, Option.map_some, Nat.sub_self, Nat.zero_add, Nat.reduceAdd, Nat.reduceSub, List.take_length, Bool.not_true, Bool.not_false, if_true, if_false, ite_true, ite_false, reduceIte, reduceCtorEq, Bool.false_eq_true, oIsi, tyD, tyP, tyA, clsP, clsPs, ansAny, tupOf, lstOf, seqOf, strOf, intOf, dicOf, oLen, bChain, o2b, PF.sizeLine_eq, Nat.reduceLeDiff, Int.reduceLE, Int.reduceLT, decide_true, decide_false, bAlt, mAlt, oAlt, bSeq, bSigns, pureSeq, oIn_v, oInSeq, oInS, oDin, pyD, pyOf, pyOfs, PF.dicKey, oSub_v, oIx, oDget, o2eq, and_self, true_and, and_true, Nx, Gt, Option.isSome_some, Option.isSome_none, isTupD, atI_0, atI_1, PyData.eqv, PyData.eqvAll, shaped_int, Int.reduceBEq, bNeg, Int.reduceNeg, o2sb, bEnum, bSl, bPart, bNoPart, Option.some.injEq, forall_const, lkP, snoc_get, snoc_set, List.take_left, oIsNot, oIs, isNon, bDnew, sDput_v, endPut, dKey_str, dKey_lk, bFld, insOf, bStar, oTuple, putAt, oSorted, colP, pures_snoc, snoc_get2, snoc_take, bCV, bFrz, frzD, sFld_v, endFld, putFP, List.mem_cons, List.not_mem_nil, or_false, true_or, or_true, lk_1, lk_2, lk_22, lk_3, lk_32, lk_33, n_12, n_13, n_23, Nat.reduceLT, bMk, bMkV, bMeth, oListZip, oSl_tup_from1, oSl_tup_to1, oPlus_v, oAdd, oCatL, oCatT, frozen, eqvAll_ns, eqvAll_ls, List.map_id, lkn_has, bCM, bSM, List.drop_succ_cons, List.drop_zero, List.take_succ_cons, List.take_zero, oList, oOwn, oOwnNe, bProp, valF, lAlt, oLenO, oAll, bDic, bGet2, rIsD, lkF_1, lkF_2, lkF_3, lkF_has, lkF_nodes, lkF_links, lkF_size, gTpL, atI_2, atI_3, gIxL, ixN_20, ixN_21, oDivmod, o2i, oInt1, take_set, Int.reduceAdd, Int.reduceMul, Int.reduceSub, Int.reduceMod, Int.reduceDiv, sTwo_v, bRev, bLstM, bBM, gExtend, gAppend, isLst, lkF_part, lkF_drawn, oOwnT, atI_m1, bZip, oMin2, oSl_lst_from1, *])
local macro_rules | `(tactic| walk_at "st") => `(tactic| (refine wp_seq fun k hk => ?_; walk_at "ev"; refine hk.out _ _ ?_; clear hk k))
local macro_rules | `(tactic| walk_at "start") => `(tactic| (refine defF_wp rfl ?_; simp only [startD, List.map_cons, List.map_nil, List.length_cons, List.length_nil, Nat.zero_add, Nat.reduceAdd, Nat.reduceSub, List.replicate, List.cons_append, List.nil_append, List.append_nil]))
/-! M15: one size, the whole -/
variable {ans : Value → Value → Option Bool} {C : Addr} {A : AH}
theorem net_f (C : Addr) (ns : List Str) (ls : List (Str × Str)) : ∃ f, net C ns ls = .obj C f ∧ List.lookup ("is_part_of" : Str) f = none ∧ List.lookup ("drawn_together" : Str) f = none :=
  ⟨_, rfl, lkF_part _ _, lkF_drawn _ _⟩
theorem eq_nets (h : An ans C) {ns : List Str} {ls : List (Str × Str)} (o : Ok ns ls) : FR_Net___eq__ C ans [.p (net C ns ls), .p (net C ns ls)] A = some (.val (.p (.bl true)) A) := eq_pp h o.nmS o.mem
theorem pathL_net (C : Addr) (xs : List Str) : net C xs.reverse (pathL xs.reverse) = net C xs (pathL xs) := net_eq C (List.reverse_perm xs) (pathL_rev_perm ltS_ord xs)
theorem ringL_net (C : Addr) (xs : List Str) : net C xs.reverse (ringL xs.reverse) = net C xs (ringL xs) := net_eq C (List.reverse_perm xs) (ringL_rev_perm ltS_ord xs)
theorem fullL_net (C : Addr) {xs ys : List Str} (h : xs.Perm ys) : net C xs (fullL xs) = net C ys (fullL ys) := net_eq C h (fullL_perm ltS_ord h)
theorem size_lo (h : An ans C) {j k : Nat} (hp : Pot A j) {ys : List Str} (h1 : 1 ≤ k) (h2 : k < 3) (hl : k ≤ ys.length) (n : Ns (ys.take k)) :
    F__law_size_right C ans [.ref j, .p (.lst (nsP ys)), .p (.int k)] A = some (.val (.p (.bl true)) A) := by
  have t0 := three_v (A := A) h h1 (by omega) hl n
  have sl := oSl_lst_to (xs := nsP ys) (k := k) (A := A)
  rw [← List.map_take] at sl
  have hk : k = (ys.take k).length := by rw [List.length_take]; omega
  generalize hxs : ys.take k = xs at t0 sl hk n
  have hsm : xs.length < 3 := by omega
  have pl := fun v0 v1 v2 v4 v5 v6 v7 v8 v9 v10 v11 v12 v13 => pairs_lc (A := A) n (v0 := v0) (v1 := v1) (v2 := v2) (v4 := v4) (v5 := v5) (v6 := v6) (v7 := v7) (v8 := v8) (v9 := v9) (v10 := v10) (v11 := v11) (v12 := v12) (v13 := v13)
  have is0 := law_is_v (A := A) h n.path (.refl _)
  have is2 := law_is_v (A := A ++ [none]) h n.full (backL_full ltS_ord xs)
  have b3 : decide ((k : Int) < 3) = true := decide_eq_true (by omega)
  have rv : (nsP xs).reverse = nsP xs.reverse := (List.map_reverse ..).symm
  have tr := three_all (A := A ++ [none]) h (xs := xs.reverse) (k := k) (by rw [List.length_reverse]; exact hk) n.rev
  have eq := eq_nets (A := A ++ [none]) h n.path
  unfold threeP at t0 tr
  rw [if_pos hsm] at t0
  rw [if_pos (by rw [List.length_reverse]; exact hsm), pathL_net, fullL_net C (List.reverse_perm xs)] at tr
  obtain ⟨fp, ep, _, _⟩ := net_f C xs (pathL xs)
  obtain ⟨ff, ef, _, _⟩ := net_f C xs (fullL xs)
  rw [ep] at t0 is0 tr eq
  rw [ef] at t0 is2 tr
  clear hk hxs hsm hp hl h1 h2 ep ef
  unfold F__law_size_right B__law_size_right
  walk_at "start"
  walk_at "st"
  walk_at "st"
  walk_at "st"
  walk_at "st"
  obtain ⟨v, w, loop⟩ := every_v (A := A) n (v0 := some (.ref j)) (v1 := some (.p (.lst (nsP ys)))) (v2 := some (.p (.int k))) (v4 := some (.p (.lst [.obj C fp, .non, .obj C ff]))) (v5 := some (.p (.lst (lsP (nrm ltS (pathL xs)))))) (v9 := none) (v10 := none) (v11 := none) (v12 := none) (v13 := none)
  refine wp_at loop ?_
  clear loop
  walk_at "st"
  refine wp_seq fun k2 hk2 => ?_
  walk_at "ev"

def minF (b c : Str) (x : P) : P := match x with
  | .str a => .str (if a = b then (iq (b, c)).1 else a)
  | _ => .non
theorem left_lc {a b c : Str} {r : List Str} (n : Ns (a :: b :: c :: r)) {v0 v1 v2 v4 v5 v6 v7 v9 v10 v12 v13 : Option D} :
    (bLc (bAlt (bSeq (bVar 3)) (bSigns (bVar 3))) (gNm 13) (bTest (bOp (o2eq true) (bVar 13) (bVar 11))) (bIf (bTest (bOp (o2eq false) (bVar 13) (bVar 8))) (bCB oMin2 (bCons (bVar 8) (bCons (bVar 11) bNil))) (bVar 13)) [13])
      [v0, v1, v2, some (.p (.lst (nsP (a :: b :: c :: r)))), v4, v5, v6, v7, some (.p (.str b)), v9, v10, some (.p (.str c)), v12, v13] A = some (.val (.p (.lst (nsP (a :: (iq (b, c)).1 :: r)))) A) := by
  have e : ((nsP (a :: b :: c :: r)).filter (neSl c)).map (minF b c) = nsP (a :: (iq (b, c)).1 :: r) := by
    have nd := n.nd
    simp only [List.nodup_cons, List.mem_cons, not_or] at nd
    have fr : (nsP r).filter (neSl c) = nsP r := List.filter_eq_self.mpr fun x hx => by
      obtain ⟨z, hz, rfl⟩ := List.mem_map.mp hx
      have : z ≠ c := fun e => nd.2.2.1 (e ▸ hz)
      simpa [neSl] using this
    have mr : (nsP r).map (minF b c) = nsP r := by
      simp only [nsP, List.map_map]
      refine List.map_congr_left fun z hz => ?_
      have : z ≠ b := fun e => nd.2.1.2 (e ▸ hz)
      simp [minF, this]
    have n1 : neSl c (.str a) = true := by simpa [neSl] using nd.1.2.1
    have n2 : neSl c (.str b) = true := by simpa [neSl] using nd.2.1.1
    have n3 : neSl c (.str c) = false := by simp [neSl]
    simp only [nsP, List.map_cons, List.filter_cons, n1, n2, n3, if_true, Bool.false_eq_true, if_false] at fr mr ⊢
    rw [fr, mr]
    have n4 : ¬ a = b := nd.1.1
    simp [minF, n4]
  rw [← e]
  refine bLc_pure (xs := nsP (a :: b :: c :: r)) (neSl c) (minF b c) (by clear e; walk_at "ev") (by rw [PF.sizeLine_eq, List.length_map]; have := n.h7; omega) ?_
  intro x hx acc
  obtain ⟨z, hz, rfl⟩ := List.mem_map.mp hx
  have k1 := (n.nm z hz).shp
  have k2 := (n.nm b (by simp)).shp
  have k3 := (n.nm c (by simp)).shp
  clear e n hx hz
  refine ⟨_, rfl, ?_, fun _ => ?_⟩
  · simp only [wipeD, neSl]
    walk_at "ev"
  · simp only [wipeD, minF]
    by_cases e : z = b
    · have e1 : (z == b) = true := by simpa using e
      rw [if_pos e]
      clear e
      cases e2 : ltS c b with
      | true =>
        have e3 : c.cps.toList < b.cps.toList := of_decide_eq_true e2
        rw [iq_gt e2]
        walk_at "ev"
      | false =>
        have e3 : ¬ c.cps.toList < b.cps.toList := of_decide_eq_false e2
        rw [iq_le e2]
        walk_at "ev"
    · have e1 : (z == b) = false := by simpa using e
      rw [if_neg e]
      clear e
      walk_at "ev"
theorem size_hi (h : An ans C) {j k : Nat} (hp : Pot A j) {ys : List Str} (h3 : 3 ≤ k) (h7 : k ≤ 7) (hl : k ≤ ys.length) (n : Ns (ys.take k)) :
    ∃ B, St j A B ∧ F__law_size_right C ans [.ref j, .p (.lst (nsP ys)), .p (.int k)] A = some (.val (.p (.bl true)) B) := by
  have t0 := three_v (A := A) h (by omega) h7 hl n
  have sl := oSl_lst_to (xs := nsP ys) (k := k) (A := A)
  rw [← List.map_take] at sl
  have hk : k = (ys.take k).length := by rw [List.length_take]; omega
  generalize hxs : ys.take k = xs at t0 sl hk n
  clear hxs hl
  obtain ⟨a, b, c, r, rfl⟩ : ∃ a b c r, xs = a :: b :: c :: r := by
    match xs, hk with
    | a :: b :: c :: r, _ => exact ⟨a, b, c, r, rfl⟩
    | [], hk => simp at hk; omega
    | [a], hk => simp at hk; omega
    | [a, b], hk => simp at hk; omega
  have hnl : (b :: c :: r) ≠ [] := by simp
  obtain ⟨z, hz⟩ : ∃ z, z = (b :: c :: r).getLast hnl := ⟨_, rfl⟩
  have mz : z ∈ a :: b :: c :: r := by rw [hz]; exact List.mem_cons_of_mem _ (List.getLast_mem _)
  have nd := n.nd
  have naz : a ≠ z := fun e => (List.nodup_cons.mp nd).1 (by rw [e, hz]; exact List.getLast_mem _)
  have hnsm : ¬ (a :: b :: c :: r).length < 3 := by simp
  obtain ⟨at_, B1, hat, hst, dr⟩ := draw_v (hp.app [none]) (n := k) (by omega) (by omega)
  obtain ⟨A', rfl, hst'⟩ := hst.cut hp.lt
  refine ⟨A', hst', ?_⟩
  have hA' : A'.length = A.length := hst'.len
  have ring := n.ring (by simp)
  have hrl : ringL (a :: b :: c :: r) = pathL (a :: b :: c :: r) ++ [(z, a)] := by rw [hz]; exact ringL_last a (b :: c :: r) hnl
  have hrl2 : nrm ltS (ringL (a :: b :: c :: r)) = nrm ltS (pathL (a :: b :: c :: r)) ++ [iq (a, z)] := by
    rw [hrl, nrm, List.map_append, List.map_singleton, ← inq_swap ltS_ord z a]
  have pl := fun v0 v1 v2 v4 v5 v6 v7 v8 v9 v10 v11 v12 v13 => pairs_lc (A := A) n (v0 := v0) (v1 := v1) (v2 := v2) (v4 := v4) (v5 := v5) (v6 := v6) (v7 := v7) (v8 := v8) (v9 := v9) (v10 := v10) (v11 := v11) (v12 := v12) (v13 := v13)
  have is0 := law_is_v (A := A) h n.path (.refl _)
  have is2 := law_is_v (A := A ++ [none]) h n.full (backL_full ltS_ord (a :: b :: c :: r))
  have is1 := law_is_v (A := A ++ [none]) h ring (ks := nrm ltS (pathL (a :: b :: c :: r)) ++ [iq (a, z)]) (by rw [hrl2])
  have b3 : decide ((k : Int) < 3) = false := decide_eq_false (by omega)
  have lk := law_link_v (A := A ++ [none]) naz
  have cat : lsP (nrm ltS (pathL (a :: b :: c :: r))) ++ [lkP (iq (a, z))] = lsP (nrm ltS (pathL (a :: b :: c :: r)) ++ [iq (a, z)]) := by simp only [lsP, List.map_append, List.map_singleton]
  have g0 : (nsP (a :: b :: c :: r))[0]? = some (.str a) := rfl
  have g1 : (nsP (a :: b :: c :: r))[1]? = some (.str b) := rfl
  have g2 : (nsP (a :: b :: c :: r))[2]? = some (.str c) := rfl
  have gl : (nsP (a :: b :: c :: r)).getLast? = some (.str z) := by
    rw [nsP, List.getLast?_map, List.getLast?_eq_some_getLast (by simp : a :: b :: c :: r ≠ []), List.getLast_cons hnl, ← hz]
    rfl
  have s1 := oSl_lst_from (xs := nsP (a :: b :: c :: r)) (k := at_) (A := A' ++ [none])
  have s2 := oSl_lst_to (xs := nsP (a :: b :: c :: r)) (k := at_) (A := A' ++ [none])
  rw [← List.map_drop] at s1
  rw [← List.map_take] at s2
  have catx : nsP ((a :: b :: c :: r).drop at_) ++ nsP ((a :: b :: c :: r).take at_) = nsP ((a :: b :: c :: r).drop at_ ++ (a :: b :: c :: r).take at_) := by simp only [nsP, List.map_append]
  have hperm : ((a :: b :: c :: r).drop at_ ++ (a :: b :: c :: r).take at_).Perm (a :: b :: c :: r) := by
    refine List.perm_append_comm.trans ?_
    rw [List.take_append_drop]
  have ntx : Ns ((a :: b :: c :: r).drop at_ ++ (a :: b :: c :: r).take at_) := n.perm hperm.symm
  have tt := three_all (A := A' ++ [none]) h (k := k) (by rw [hperm.length_eq]; exact hk) ntx
  have rv : (nsP (a :: b :: c :: r)).reverse = nsP (a :: b :: c :: r).reverse := (List.map_reverse ..).symm
  have tr := three_all (A := A' ++ [none]) h (xs := (a :: b :: c :: r).reverse) (k := k) (by rw [List.length_reverse]; exact hk) n.rev
  have lcat : ((a :: b :: c :: r).drop at_).length + ((a :: b :: c :: r).take at_).length ≤ 16777216 := by
    have := hperm.length_eq
    rw [List.length_append] at this
    have := n.h7
    omega
  have lcat2 : (pathL (a :: b :: c :: r)).length ≤ 16777215 := by
    have := pathL_len (a :: b :: c :: r)
    have := n.h7
    omega
  have eqp := eq_nets (A := A' ++ [none]) h n.path
  have eqr := eq_nets (A := A' ++ [none]) h ring
  have eqf := eq_nets (A := A' ++ [none]) h n.full
  have sb := sub_v (A := A' ++ [none]) h ring (a := a) (b := z) (by simp) mz naz ((sortL_perm _).mem_iff.mpr (by rw [hrl2]; simp)) n.path (.refl _) (by
    have := ring_less ltS_ord (x := a) (r := b :: c :: r) (by simp) hnl nd (sortL_perm _)
    rwa [← hz] at this)
  have sb : FR_Net___sub__ C ans [.p (net C (a :: b :: c :: r) (ringL (a :: b :: c :: r))), .p (lkP (a, z))] (A' ++ [none]) = some (.val (.p (net C (a :: b :: c :: r) (pathL (a :: b :: c :: r)))) (A' ++ [none])) := sb
  have pt := part_v (A := A' ++ [none]) h n.path ring fun p hp => by rw [hrl2]; exact List.mem_append_left _ hp
  unfold threeP at t0 tt tr
  rw [if_neg hnsm] at t0
  rw [if_neg (by rw [hperm.length_eq]; exact hnsm)] at tt
  rw [if_neg (by rw [List.length_reverse]; exact hnsm), pathL_net, ringL_net, fullL_net C (List.reverse_perm _)] at tr
  have enr : net C ((a :: b :: c :: r).drop at_ ++ (a :: b :: c :: r).take at_) (ringL ((a :: b :: c :: r).drop at_ ++ (a :: b :: c :: r).take at_)) = net C (a :: b :: c :: r) (ringL (a :: b :: c :: r)) :=
    net_eq C hperm ((ringL_turn at_ (a :: b :: c :: r) (by rw [← hk]; omega)).map _)
  rw [enr, fullL_net C hperm] at tt
  obtain ⟨fp, ep, lp1, lp2⟩ := net_f C (a :: b :: c :: r) (pathL (a :: b :: c :: r))
  obtain ⟨fr, er, lr1, lr2⟩ := net_f C (a :: b :: c :: r) (ringL (a :: b :: c :: r))
  obtain ⟨ff, ef, _, _⟩ := net_f C (a :: b :: c :: r) (fullL (a :: b :: c :: r))
  obtain ⟨ft, et, _, _⟩ := net_f C ((a :: b :: c :: r).drop at_ ++ (a :: b :: c :: r).take at_) (pathL ((a :: b :: c :: r).drop at_ ++ (a :: b :: c :: r).take at_))
  rw [et] at tt
  rw [ep] at t0 is0 tr eqp sb pt
  rw [er] at t0 is1 tt tr eqr sb pt
  rw [ef] at t0 is2 tt tr eqf
  have tk : (A' ++ [none]).take A.length = A' := by rw [← hA', List.take_left]
  have len2 : (a :: b :: c :: r).length ≤ 16777216 := by have := n.h7; omega
  simp only [lkP] at lk cat sb
  rcases Nat.lt_or_ge 3 k with k4 | k4
  · have b33 : decide ((3 : Int) < (k : Int)) = true := decide_eq_true (by omega)
    obtain ⟨d, r', hr⟩ : ∃ d r', r = d :: r' := by
      cases r with
      | nil => simp at hk; omega
      | cons d r' => exact ⟨d, r', rfl⟩
    have hrn : r ≠ [] := by rw [hr]; simp
    have dt := drawn_v (A := A' ++ [none]) h n hrn
    have ll := fun v0 v1 v2 v4 v5 v6 v7 v9 v10 v12 v13 => left_lc (A := A' ++ [none]) n (v0 := v0) (v1 := v1) (v2 := v2) (v4 := v4) (v5 := v5) (v6 := v6) (v7 := v7) (v9 := v9) (v10 := v10) (v12 := v12) (v13 := v13)
    have nl := n.left
    have hll : k = (a :: (iq (b, c)).1 :: r).length + 1 := by rw [hk]; rfl
    have hl3 : ¬ (a :: (iq (b, c)).1 :: r).length < 3 := by rw [hr]; simp
    have t2 := three_all (A := A' ++ [none]) h (k := k - 1) (by omega) nl
    have ek : ((k - 1 : Nat) : Int) = (k : Int) - 1 := by omega
    rw [ek] at t2
    unfold threeP at t2
    rw [if_neg hl3] at t2
    have eql := eq_nets (A := A' ++ [none]) h (nl.ring (by omega))
    obtain ⟨gp, egp, _, _⟩ := net_f C (a :: (iq (b, c)).1 :: r) (pathL (a :: (iq (b, c)).1 :: r))
    obtain ⟨gr, egr, _, _⟩ := net_f C (a :: (iq (b, c)).1 :: r) (ringL (a :: (iq (b, c)).1 :: r))
    obtain ⟨gf, egf, _, _⟩ := net_f C (a :: (iq (b, c)).1 :: r) (fullL (a :: (iq (b, c)).1 :: r))
    rw [egp, egr, egf] at t2
    rw [egr] at eql dt
    rw [er] at dt
    simp only [lkP] at dt
    clear ek egp egr egf hll hl3 hrn hr ep er ef et enr hA' hst hst' ring hrl hrl2 hz hk hnsm naz mz nd hat ntx hperm nl k4 h3 h7 hp
    generalize a :: (iq (b, c)).1 :: r = lf at *
    have nX := n
    generalize a :: b :: c :: r = xs at *
    clear n
    unfold F__law_size_right B__law_size_right
    walk_at "start"
    walk_at "st"
    walk_at "st"
    walk_at "st"
    walk_at "st"
    obtain ⟨v, w, loop⟩ := every_v (A := A) nX (v0 := some (.ref j)) (v1 := some (.p (.lst (nsP ys)))) (v2 := some (.p (.int k))) (v4 := some (.p (.lst [.obj C fp, .obj C fr, .obj C ff]))) (v5 := some (.p (.lst (lsP (nrm ltS (pathL xs)))))) (v9 := none) (v10 := none) (v11 := none) (v12 := none) (v13 := none)
    refine wp_at loop ?_
    clear loop
    walk_at "st"
    walk_at "st"
    walk_at "st"
    walk_at "st"
    walk_at "st"
    walk_at "st"
    walk_at "st"
    refine wp_seq fun k2 hk2 => ?_
    walk_at "ev"
  · have b33 : decide ((3 : Int) < (k : Int)) = false := decide_eq_false (by omega)
    have hr : r = [] := by
      cases r with
      | nil => rfl
      | cons d r' => simp at hk; omega
    have e3 : fr = ff := by
      subst hr
      have e : net C [a, b, c] (ringL [a, b, c]) = net C [a, b, c] (fullL [a, b, c]) := net_eq C (.refl _) (three_full ltS_ord a b c)
      rw [er, ef] at e
      exact (P.obj.inj e).2
    subst e3
    clear hr ep er ef et enr hA' hst hst' ring hrl hrl2 hz hk hnsm naz mz nd hat ntx hperm k4 h3 h7 hp
    have nX := n
    generalize a :: b :: c :: r = xs at *
    clear n
    unfold F__law_size_right B__law_size_right
    walk_at "start"
    walk_at "st"
    walk_at "st"
    walk_at "st"
    walk_at "st"
    obtain ⟨v, w, loop⟩ := every_v (A := A) nX (v0 := some (.ref j)) (v1 := some (.p (.lst (nsP ys)))) (v2 := some (.p (.int k))) (v4 := some (.p (.lst [.obj C fp, .obj C fr, .obj C fr]))) (v5 := some (.p (.lst (lsP (nrm ltS (pathL xs)))))) (v9 := none) (v10 := none) (v11 := none) (v12 := none) (v13 := none)
    refine wp_at loop ?_
    clear loop
    walk_at "st"
    walk_at "st"
    walk_at "st"
    walk_at "st"
    walk_at "st"
    walk_at "st"
    walk_at "st"
    walk_at "st"
    walk_at "ev"
theorem size_right_v (h : An ans C) {j k : Nat} (hp : Pot A j) {ys : List Str} (h1 : 1 ≤ k) (h7 : k ≤ 7) (hl : k ≤ ys.length) (n : Ns (ys.take k)) :
    ∃ B, St j A B ∧ F__law_size_right C ans [.ref j, .p (.lst (nsP ys)), .p (.int k)] A = some (.val (.p (.bl true)) B) := by
  rcases Nat.lt_or_ge k 3 with h3 | h3
  · exact ⟨A, St.refl hp, size_lo h hp h1 h3 hl n⟩
  · exact size_hi h hp h3 h7 hl n
end PF.k19

/-! text M16 -/
set_option Elab.async false
set_option linter.all false
set_option maxRecDepth 100000
namespace PF.k19
open PySem L2 PySem.Spec PyProof.Rows

local macro_rules | `(tactic| walk_at "st") => `(tactic| (refine wp_seq fun k hk => ?_; walk_at "ev"; refine hk.out _ _ ?_; clear hk k))
local macro_rules | `(tactic| walk_at "start") => `(tactic| (refine defF_wp rfl ?_; simp only [startD, List.map_cons, List.map_nil, List.length_cons, List.length_nil, Nat.zero_add, Nat.reduceAdd, Nat.reduceSub, List.replicate, List.cons_append, List.nil_append, List.append_nil]))
/-! M16: drawn names -/
theorem len_sub {α : Type} [DecidableEq α] : ∀ {l m : List α}, l.Nodup → (∀ x ∈ l, x ∈ m) → l.length ≤ m.length
  | [], _, _, _ => Nat.zero_le _
  | x :: l, m, nd, h => by
    obtain ⟨n1, n2⟩ := List.nodup_cons.mp nd
    have hx := h x List.mem_cons_self
    have := len_sub (l := l) (m := m.erase x) n2 fun y hy => (List.mem_erase_of_ne (a := y) (b := x) (fun e => n1 (by rw [← e]; exact hy))).mpr (h y (List.mem_cons_of_mem _ hy))
    rw [List.length_erase_of_mem hx] at this
    have hp : 0 < m.length := List.length_pos_of_mem hx
    simp only [List.length_cons]
    omega
theorem letters_len : letters.cps.toList.length = 26 := by decide +kernel
theorem letters_len' : (Str.ofString "abcdefghijklmnopqrstuvwxyz").length ≤ 16777216 := by decide +kernel
def spare : List Str := ["qqa", "qqb", "qqc", "qqd", "qqe", "qqf", "qqg"]
theorem spare_nm : ∀ a ∈ spare, Nm a := by
  intro a ha
  have h : ∀ a ∈ spare, 1 ≤ a.length ∧ a.length ≤ 8 ∧ ∀ c ∈ a.cps.toList, c ∈ letters.cps.toList := by decide +kernel
  exact ⟨(h a ha).1, (h a ha).2.1, (h a ha).2.2⟩
theorem spare_nd : spare.Nodup := by decide +kernel
def notIn (fs : List Str) (x : P) : Bool := match x with
  | .str a => !decide (a ∈ fs)
  | _ => false
theorem spare_left {fs : List Str} (h : fs.length < 7) : ∃ b r, ((nsP spare).filter (notIn fs)).map (fun x => x) = .str b :: r ∧ b ∉ fs ∧ Nm b := by
  have e : ((nsP spare).filter (notIn fs)).map (fun x => x) = nsP (spare.filter fun a => !decide (a ∈ fs)) := by
    rw [List.map_id', List.filter_map]; rfl
  rw [e]
  cases q : spare.filter (fun a => !decide (a ∈ fs)) with
  | nil =>
    have : ∀ x ∈ spare, x ∈ fs := fun x hx => by
      have := List.filter_eq_nil_iff.mp q x hx
      simpa using this
    have := len_sub spare_nd this
    have e7 : spare.length = 7 := rfl
    omega
  | cons b r =>
    have hb : b ∈ spare.filter (fun a => !decide (a ∈ fs)) := by rw [q]; exact List.mem_cons_self
    obtain ⟨h1, h2⟩ := List.mem_filter.mp hb
    exact ⟨b, nsP r, rfl, by simpa using h2, spare_nm b h1⟩
local macro_rules | `(tactic| walk_at "ev") => `(tactic| simp only [wp_nx, wp_rt, sSeq, fin, sIf, sRet_v, sThen, sSet_v, sAsg_v, sExpr_v, sSkip, sBreak, gNm, gTp, gCs, gNl, bVar, bC, bOp, bTest, bAnd, bOr, bNot, bIf, bOfT, bAndV, bOrV, bNil, bCons, bCall, bCB, bTup, bLst, pures, M.bind, M.ret, M.need, M.stuck, List.map_cons, List.map_nil, List.replicate, List.length_cons, List.length_nil, List.length_map, List.cons_append, List.nil_append, List.append_nil, List.getElem?_cons_zero, List.getElem?_cons_succ, List.set_cons_zero, List.set_cons_succ, Option.map_some, Nat.sub_self, Nat.zero_add, Nat.reduceAdd, Nat.reduceSub, List.take_length, Bool.not_true, Bool.not_false, if_true, if_false, ite_true, ite_false, reduceIte, reduceCtorEq, Bool.false_eq_true, oIsi, tyD, tyP, tyA, clsP, clsPs, ansAny, tupOf, lstOf, seqOf, strOf, intOf, dicOf, oLen, bChain, o2b, PF.sizeLine_eq, Nat.reduceLeDiff, Int.reduceLE, Int.reduceLT, decide_true, decide_false, bAlt, mAlt, oAlt, bSeq, bSigns, pureSeq, oIn_v, oInSeq, oInS, oDin, pyD, pyOf, pyOfs, PF.dicKey, oSub_v, oIx, oDget, o2eq, and_self, true_and, and_true, Nx, Gt, Option.isSome_some, Option.isSome_none, isTupD, atI_0, atI_1, PyData.eqv, PyData.eqvAll, shaped_int, Int.reduceBEq, bNeg, Int.reduceNeg, o2sb, bEnum, bSl, bPart, bNoPart, Option.some.injEq, forall_const, lkP, snoc_get, snoc_set, List.take_left, oIsNot, oIs, isNon, bDnew, sDput_v, endPut, dKey_str, dKey_lk, bFld, insOf, bStar, oTuple, putAt, oSorted, colP, pures_snoc, snoc_get2, snoc_take, bCV, bFrz, frzD, sFld_v, endFld, putFP, List.mem_cons, List.not_mem_nil, or_false, true_or, or_true, lk_1, lk_2, lk_22, lk_3, lk_32, lk_33, n_12, n_13, n_23, Nat.reduceLT, bMk, bMkV, bMeth, oListZip, oSl_tup_from1, oSl_tup_to1, oPlus_v, oAdd, oCatL, oCatT, frozen, eqvAll_ns, eqvAll_ls, List.map_id, lkn_has, bCM, bSM, List.drop_succ_cons, List.drop_zero, List.take_succ_cons, List.take_zero, oList, oOwn, oOwnNe, bProp, valF, lAlt, oLenO, oAll, bDic, bGet2, rIsD, lkF_1, lkF_2, lkF_3, lkF_has, lkF_nodes, lkF_links, lkF_size, gTpL, atI_2, atI_3, gIxL, ixN_20, ixN_21, oDivmod, o2i, oInt1, take_set, Int.reduceAdd, Int.reduceMul, Int.reduceSub, Int.reduceMod, Int.reduceDiv, sTwo_v, bRev, bLstM, bBM, gExtend, gAppend, isLst, lkF_part, lkF_drawn, oOwnT, atI_m1, bZip, oMin2, oSl_lst_from1, bRange1, bRange2, *])
variable {ans : Value → Value → Option Bool} {C : Addr} {A : AH}
theorem label_v {j : Nat} (hp : Pot A j) : ∃ (a : Str) (B : AH), Nm a ∧ St j A B ∧ F__law_label [.ref j] A = some (.val (.p (.str a)) B) := by
  obtain ⟨d1, B1, h1, st1, dr1⟩ := draw_v hp (n := 2) (by decide) (by decide)
  obtain ⟨m, hm0, hm, hix⟩ : ∃ m : Nat, 0 < m ∧ m ≤ 8 ∧ atI [P.int 2, P.int 8] (d1 : Int) = some (.int (m : Int)) := by
    match d1, h1 with
    | 0, _ => exact ⟨2, by decide, by decide, rfl⟩
    | 1, _ => exact ⟨8, by decide, by decide, rfl⟩
  obtain ⟨d2, B2, h2, st2, dr2⟩ := draw_v st1.pot (n := m) hm0 (by omega)
  have st := st1.trans st2
  have dr1 : F__law_draw [.ref j, .p (.int 2)] A = some (.val (.p (.int d1)) B1) := dr1
  have e62 : (2 : Int) ^ 62 = 4611686018427387904 := by decide
  have r1 : -(2 ^ 62) ≤ (1 : Int) + (d2 : Int) ∧ (1 : Int) + (d2 : Int) < 2 ^ 62 := by rw [e62]; omega
  have it : (bRange1 (bCons (bOp oPlus (bC (.int 1)) (bCall F__law_draw [] (bCons (bVar 0) (bCons (bOp oSub (bLst (bCons (bC (.int 2)) (bCons (bC (.int 8)) bNil))) (bCall F__law_draw [] (bCons (bVar 0) (bCons (bC (.int 2)) bNil)))) bNil)))) bNil)) [some (.ref j), some (.p (.str "")), none] A =
      some (.val ((List.range ((1 : Int) + (d2 : Int)).toNat).map fun (k : Nat) => P.int (0 + (k : Int))) B2) := by
    clear e62 hm0 hm h1 h2 st st1 st2 hp
    walk_at "ev"
  have hlen : ((List.range ((1 : Int) + (d2 : Int)).toNat).map fun (k : Nat) => P.int (0 + (k : Int))).length = 1 + d2 := by
    rw [List.length_map, List.length_range]; omega
  obtain ⟨σ', A', loop, s, v, rfl, hs, hc, hst⟩ := sFor_inv (g := gNm 2) (b := (sSet (bOp oPlus (bVar 1) (bOp oSub (bC (.str "abcdefghijklmnopqrstuvwxyz")) (bCall F__law_draw [] (bCons (bVar 0) (bCons (bC (.int 26)) bNil))))) 1))
    (fun i σ B => ∃ (s : Str) (v : Option D), σ = [some (.ref j), some (.p (.str s)), v] ∧ s.length = i ∧ (∀ c ∈ s.cps.toList, c ∈ letters.cps.toList) ∧ St j A B) it ⟨"", none, rfl, rfl, (fun c hc => by cases hc), st⟩ (by
      rintro i x σ B hx ⟨s, v, rfl, hs, hc, hst⟩
      have hi := (List.getElem?_eq_some_iff.mp hx).1
      rw [hlen] at hi
      obtain ⟨d, B', hd, hst', dr⟩ := draw_v hst.pot (n := 26) (by decide) (by decide)
      have dr : F__law_draw [.ref j, .p (.int 26)] B = some (.val (.p (.int d)) B') := dr
      obtain ⟨c, hcl⟩ : ∃ c, letters.cps.toList[d]? = some c := ⟨letters.cps.toList[d]'(by rw [letters_len]; exact hd), List.getElem?_eq_getElem _⟩
      have hat : atI (Str.ofString "abcdefghijklmnopqrstuvwxyz").cps.toList (d : Int) = some c := by rw [atI_nat]; exact hcl
      have l1 := letters_len'
      have l2 : s.length + (⟨#[c]⟩ : Str).length ≤ 16777216 := by
        have : (⟨#[c]⟩ : Str).length = 1 := rfl
        omega
      have nst := hst.trans hst'
      have hmem := List.mem_of_getElem? hcl
      have hs' : Hid (s.length = i) := ⟨hs⟩
      clear hx it hcl dr1 dr2 hix hst hst' st st1 st2 hp hlen e62 r1 hs
      walk_at "ev"
      have hs := hs'.out
      refine ⟨_, _, rfl, ?_, ?_⟩
      · show (s.cps ++ #[c]).size = i + 1
        rw [Array.size_append]
        have : s.cps.size = i := hs
        rw [this]; rfl
      · intro c' hc'
        have : c' ∈ (s.cps ++ #[c]).toList := hc'
        rw [Array.toList_append] at this
        rcases List.mem_append.mp this with h | h
        · exact hc c' h
        · simp at h; rw [h]; exact hmem)
  rw [hlen] at hs
  refine ⟨s, A', ⟨by omega, by omega, hc⟩, hst, ?_⟩
  have tk : A'.take A.length = A' := List.take_of_length_le (by rw [hst.len]; exact Nat.le_refl _)
  clear hc hs hst it hlen dr1 dr2 hix st st1 st2 hp e62 r1
  unfold F__law_label B__law_label
  walk_at "start"
  walk_at "st"
  refine wp_at loop ?_
  walk_at "ev"
end PF.k19

/-! text M17 -/
set_option Elab.async false
set_option linter.all false
set_option maxRecDepth 100000
namespace PF.k19
open PySem L2 PySem.Spec PyProof.Rows
local macro_rules | `(tactic| walk_at "ev") => `(tactic| simp only [wp_nx, wp_rt, sSeq, fin, sIf, sRet_v, sThen, sSet_v, sAsg_v, sExpr_v, sSkip, sBreak, gNm, gTp, gCs, gNl, bVar, bC, bOp, bTest, bAnd, bOr, bNot, bIf, bOfT, bAndV, bOrV, bNil, bCons, bCall, bCB, bTup, bLst, pures, M.bind, M.ret, M.need, M.stuck, List.map_cons, List.map_nil, List.replicate, List.length_cons, List.length_nil, List.length_map, List.cons_append, List.nil_append, List.append_nil, List.getElem?_cons_zero, List.getElem?_cons_succ, List.set_cons_zero, List.set_cons_succ, Option.map_some, Nat.sub_self, Nat.zero_add, Nat.reduceAdd, Nat.reduceSub, List.take_length, Bool.not_true, Bool.not_false, if_true, if_false, ite_true, ite_false, reduceIte, reduceCtorEq, Bool.false_eq_true, oIsi, tyD, tyP, tyA, clsP, clsPs, ansAny, tupOf, lstOf, seqOf, strOf, intOf, dicOf, oLen, bChain, o2b, PF.sizeLine_eq, Nat.reduceLeDiff, Int.reduceLE, Int.reduceLT, decide_true, decide_false, bAlt, mAlt, oAlt, bSeq, bSigns, pureSeq, oIn_v, oInSeq, oInS, oDin, pyD, pyOf, pyOfs, PF.dicKey, oSub_v, oIx, oDget, o2eq, and_self, true_and, and_true, Nx, Gt, Option.isSome_some, Option.isSome_none, isTupD, atI_0, atI_1, PyData.eqv, PyData.eqvAll, shaped_int, Int.reduceBEq, bNeg, Int.reduceNeg, o2sb, bEnum, bSl, bPart, bNoPart, Option.some.injEq, forall_const, lkP, snoc_get, snoc_set, List.take_left, oIsNot, oIs, isNon, bDnew, sDput_v, endPut, dKey_str, dKey_lk, bFld, insOf, bStar, oTuple, putAt, oSorted, colP, pures_snoc, snoc_get2, snoc_take, bCV, bFrz, frzD, sFld_v, endFld, putFP, List.mem_cons, List.not_mem_nil, or_false, true_or, or_true, lk_1, lk_2, lk_22, lk_3, lk_32, lk_33, n_12, n_13, n_23, Nat.reduceLT, bMk, bMkV, bMeth, oListZip, oSl_tup_from1, oSl_tup_to1, oPlus_v, oAdd, oCatL, oCatT, frozen, eqvAll_ns, eqvAll_ls, List.map_id, lkn_has, bCM, bSM, List.drop_succ_cons, List.drop_zero, List.take_succ_cons, List.take_zero, oList, oOwn, oOwnNe, bProp, valF, lAlt, oLenO, oAll, bDic, bGet2, rIsD, lkF_1, lkF_2, lkF_3, lkF_has, lkF_nodes, lkF_links, lkF_size, gTpL, atI_2, atI_3, gIxL, ixN_20, ixN_21, oDivmod, o2i, oInt1, take_set, Int.reduceAdd, Int.reduceMul, Int.reduceSub, Int.reduceMod, Int.reduceDiv, sTwo_v, bRev, bLstM, bBM, gExtend, gAppend, isLst, lkF_part, lkF_drawn, oOwnT, atI_m1, bZip, oMin2, oSl_lst_from1, bRange1, bRange2, *])
local macro_rules | `(tactic| walk_at "st") => `(tactic| (refine wp_seq fun k hk => ?_; walk_at "ev"; refine hk.out _ _ ?_; clear hk k))
local macro_rules | `(tactic| walk_at "start") => `(tactic| (refine defF_wp rfl ?_; simp only [startD, List.map_cons, List.map_nil, List.length_cons, List.length_nil, Nat.zero_add, Nat.reduceAdd, Nat.reduceSub, List.replicate, List.cons_append, List.nil_append, List.append_nil]))
/-! M17: seven drawn names -/
variable {ans : Value → Value → Option Bool} {C : Addr} {A : AH}
theorem labels_v {j : Nat} (hp : Pot A j) : ∃ (fs : List Str) (B : AH), Ns fs ∧ fs.length = 7 ∧ St j A B ∧ F__law_labels [.ref j] A = some (.val (.p (.lst (nsP fs))) B) := by
  have e62 : (2 : Int) ^ 62 = 4611686018427387904 := by decide
  have r1 : -(2 ^ 62) ≤ (7 : Int) ∧ (7 : Int) < 2 ^ 62 := by rw [e62]; omega
  have it : (bRange1 (bCons (bC (.int 7)) bNil)) [some (.ref j), some (.ref A.length), none, none, none] (A ++ [some (.lst [])]) =
      some (.val ((List.range (7 : Int).toNat).map fun (k : Nat) => P.int (0 + (k : Int))) (A ++ [some (.lst [])])) := by
    clear e62
    walk_at "ev"
  have hlen : ((List.range (7 : Int).toNat).map fun (k : Nat) => P.int (0 + (k : Int))).length = 7 := by rfl
  obtain ⟨σ', A', loop, fs, B, v2, v3, v4, rfl, rfl, hst, hfl, hnd, hnm⟩ := sFor_inv (g := gNm 2) (b := (sSeq (sSet (bCall F__law_label [] (bCons (bVar 0) bNil)) 3)
      (sSeq (sIf (bTest (bOp (oIn false) (bVar 3) (bVar 1)))
      (sSet (bOp oSub (bLc (bAlt (bSeq (bLst (bCons (bC (.str "qqa")) (bCons (bC (.str "qqb")) (bCons (bC (.str "qqc")) (bCons (bC (.str "qqd")) (bCons (bC (.str "qqe")) (bCons (bC (.str "qqf")) (bCons (bC (.str "qqg")) bNil))))))))) (bSigns (bLst (bCons (bC (.str "qqa")) (bCons (bC (.str "qqb")) (bCons (bC (.str "qqc")) (bCons (bC (.str "qqd")) (bCons (bC (.str "qqe")) (bCons (bC (.str "qqf")) (bCons (bC (.str "qqg")) bNil)))))))))) (gNm 4) (bTest (bOp (oIn true) (bVar 4) (bVar 1))) (bVar 4) [4]) (bC (.int 0))) 3)
      sSkip)
      (sExpr (bBM gAppend (bVar 1) (bCons (bVar 3) bNil))))))
    (fun i σ D1 => ∃ (fs : List Str) (B : AH) (v2 v3 v4 : Option D), σ = [some (.ref j), some (.ref A.length), v2, v3, v4] ∧ D1 = B ++ [some (.lst (nsP fs))] ∧ St j A B ∧ fs.length = i ∧ fs.Nodup ∧ ∀ a ∈ fs, Nm a) it ⟨[], A, none, none, none, rfl, rfl, St.refl hp, rfl, List.nodup_nil, (fun a ha => by cases ha)⟩ (by
      rintro i x σ D1 hx ⟨fs, B, v2, v3, v4, rfl, rfl, hst, hfl, hnd, hnm⟩
      have hi := (List.getElem?_eq_some_iff.mp hx).1
      rw [hlen] at hi
      obtain ⟨a, B1, na, st1, lb⟩ := label_v (hst.pot.app [some (.lst (nsP fs))])
      obtain ⟨B2, rfl, st2⟩ := st1.cut hst.pot.lt
      have nst := hst.trans st2
      have hl2 : B2.length = A.length := nst.len
      have hg : (B2 ++ [some (AO.lst (nsP fs))])[A.length]? = some (some (.lst (nsP fs))) := by rw [← hl2]; exact snoc_get _ _
      have hs : ∀ y, (B2 ++ [some (AO.lst (nsP fs))]).set A.length y = B2 ++ [y] := fun y => by rw [← hl2]; exact snoc_set _ _ _
      have p1 := pyOfs_ns fs
      have p2 := any_str fs a
      have p3 := shaped_nsL hnm
      have p4 := na.shp
      have l1 : fs.length < 16777216 := by omega
      have fin_ : ∀ b, Nm b → b ∉ fs → ∃ (fs' : List Str) (B' : AH) (w2 w3 w4 : Option D), [some (D.ref j), some (.ref A.length), some (D.p x), some (.p (.str b)), v4] = [some (.ref j), some (.ref A.length), w2, w3, w4] ∧ B2 ++ [some (AO.lst (nsP fs ++ [.str b]))] = B' ++ [some (.lst (nsP fs'))] ∧ St j A B' ∧ fs'.length = i + 1 ∧ fs'.Nodup ∧ ∀ a ∈ fs', Nm a := fun b nb hb =>
        ⟨fs ++ [b], B2, _, _, _, rfl, by simp only [nsP, List.map_append, List.map_singleton], nst, by simp [hfl], List.nodup_append.mpr ⟨hnd, by simp, fun y hy z hz e => hb (by simp at hz; rw [← hz, ← e]; exact hy)⟩, fun c hc => (List.mem_append.mp hc).elim (hnm c) fun h => by simp at h; rw [h]; exact nb⟩
      have fin' := Hid.mk fin_
      by_cases hm : a ∈ fs
      · have p5 : decide (a ∈ fs) = true := decide_eq_true hm
        obtain ⟨b, r, e1, nb, hb⟩ := spare_left (fs := fs) (by omega)
        have lc : (bLc (bAlt (bSeq (bLst (bCons (bC (.str "qqa")) (bCons (bC (.str "qqb")) (bCons (bC (.str "qqc")) (bCons (bC (.str "qqd")) (bCons (bC (.str "qqe")) (bCons (bC (.str "qqf")) (bCons (bC (.str "qqg")) bNil))))))))) (bSigns (bLst (bCons (bC (.str "qqa")) (bCons (bC (.str "qqb")) (bCons (bC (.str "qqc")) (bCons (bC (.str "qqd")) (bCons (bC (.str "qqe")) (bCons (bC (.str "qqf")) (bCons (bC (.str "qqg")) bNil)))))))))) (gNm 4) (bTest (bOp (oIn true) (bVar 4) (bVar 1))) (bVar 4) [4])
            [some (.ref j), some (.ref A.length), some (D.p x), some (.p (.str a)), v4] (B2 ++ [some (.lst (nsP fs))]) = some (.val (.p (.lst (.str b :: r))) (B2 ++ [some (.lst (nsP fs))])) := by
          rw [← e1]
          refine bLc_pure (xs := nsP spare) (notIn fs) (fun x => x) (by rfl) (by rw [PF.sizeLine_eq]; decide) ?_
          intro y hy acc
          obtain ⟨z, hz, rfl⟩ := List.mem_map.mp hy
          have q1 := any_str fs z
          have q2 := (spare_nm z hz).shp
          have hg2 : (B2 ++ [some (AO.lst (nsP fs))] ++ [some (AO.lst acc)])[A.length]? = some (some (.lst (nsP fs))) := by rw [← hl2]; exact snoc_get2 _ _ _
          clear fin_ fin' lb st1 st2 hst hx e1 hl2 hs hfl hi hnm hnd nst hy hz p2 p5 hm nb hb hg it
          refine ⟨_, rfl, ?_, fun _ => rfl⟩
          simp only [wipeD, notIn]
          walk_at "ev"
        clear fin_ hx st1 st2 hst hl2 hfl hi hnm hnd nst e1 hm it
        walk_at "ev"
        exact fin'.out b hb nb
      · have p5 : decide (a ∈ fs) = false := decide_eq_false hm
        have hm' := Hid.mk hm
        clear fin_ hx st1 st2 hst hl2 hfl hi hnm hnd nst hm it
        walk_at "ev"
        exact fin'.out a na hm'.out)
  rw [hlen] at hfl
  refine ⟨fs, B, ⟨hnm, hnd, (fun e => by rw [e] at hfl; cases hfl), by omega⟩, hfl, hst, ?_⟩
  have hl2 := hst.len
  have hg : (B ++ [some (AO.lst (nsP fs))])[A.length]? = some (some (.lst (nsP fs))) := by rw [← hl2]; exact snoc_get _ _
  have hs : ∀ y, (B ++ [some (AO.lst (nsP fs))]).set A.length y = B ++ [y] := fun y => by rw [← hl2]; exact snoc_set _ _ _
  have ht : ∀ y, (B ++ [y]).take A.length = B := fun y => by rw [← hl2, List.take_left]
  clear hfl hl2 hst hnd hnm it hlen e62 r1 hp
  unfold F__law_labels B__law_labels
  walk_at "start"
  walk_at "st"
  refine wp_at loop ?_
  walk_at "ev"
end PF.k19

/-! text M18 -/
set_option Elab.async false
set_option linter.all false
set_option maxRecDepth 100000
namespace PF.k19
open PySem L2 PySem.Spec PyProof.Rows

local macro_rules | `(tactic| walk_at "st") => `(tactic| (refine wp_seq fun k hk => ?_; walk_at "ev"; refine hk.out _ _ ?_; clear hk k))
local macro_rules | `(tactic| walk_at "start") => `(tactic| (refine defF_wp rfl ?_; simp only [startD, List.map_cons, List.map_nil, List.length_cons, List.length_nil, Nat.zero_add, Nat.reduceAdd, Nat.reduceSub, List.replicate, List.cons_append, List.nil_append, List.append_nil]))
/-! M18: the net of drawn links -/
def lstO (o : Option (Option AO)) : Option (List P) := match o with
  | some (some (.lst xs)) => some xs
  | _ => none
theorem lstOf_ref {i : Nat} {A : AH} {o : Option (Option AO)} (h : A[i]? = o) : lstOf (.ref i) A = lstO o := by
  cases o with
  | none => simp only [lstOf, h, lstO]
  | some o => cases o with
    | none => simp only [lstOf, h, lstO]
    | some ao => cases ao <;> simp only [lstOf, h, lstO]
theorem oSl_ref {i : Nat} {lo hi : Option Int} {A : AH} : oSl (.ref i) lo hi A = match A[i]? with
  | some (some (.lst xs)) => some (.val (.p (.lst (cutP xs lo hi))) A)
  | _ => none := by
  have e1 : tupOf (.ref i) = none := rfl
  have e3 : strOf (.ref i) = none := rfl
  cases h : A[i]? with
  | none =>
    have e2 := lstOf_ref h
    unfold oSl
    rw [e1]; simp only [e2, e3, lstO]
  | some o =>
    have e2 := lstOf_ref h
    cases o with
    | none => unfold oSl; rw [e1]; simp only [e2, e3, lstO]
    | some ao => cases ao <;> (unfold oSl; rw [e1]; simp only [e2, e3, lstO])
/-- a link of the t-th further name -/
def Lk (ss : List Str) (t : Nat) (p : Str × Str) : Prop := ∃ x y d, ss[t + 1]? = some x ∧ d ≤ t ∧ ss[d]? = some y ∧ (p = (x, y) ∨ p = (y, x))
theorem idx_inj {ss : List Str} (nd : ss.Nodup) {i j : Nat} {x : Str} (h1 : ss[i]? = some x) (h2 : ss[j]? = some x) : i = j := by
  obtain ⟨a1, b1⟩ := List.getElem?_eq_some_iff.mp h1
  obtain ⟨a2, b2⟩ := List.getElem?_eq_some_iff.mp h2
  exact (List.getElem_inj (h₀ := a1) (h₁ := a2) nd).mp (b1.trans b2.symm)
theorem Lk.ne_lt {ss : List Str} (nd : ss.Nodup) {t u : Nat} {p q : Str × Str} (hp : Lk ss t p) (hq : Lk ss u q) (h : t < u) : iq p ≠ iq q := by
  intro e
  obtain ⟨x, y, d, h1, h2, h3, h4⟩ := hp
  obtain ⟨x', y', d', k1, k2, k3, k4⟩ := hq
  have hx : x' = p.1 ∨ x' = p.2 := by
    have : x' = q.1 ∨ x' = q.2 := by rcases k4 with k | k <;> rw [k] <;> simp
    rcases (inq_iff ltS_ord).mp e with e | e
    · rw [e]; exact this
    · rw [e]; exact this.symm
  have : x' = x ∨ x' = y := by
    rcases h4 with k | k <;> rw [k] at hx
    · exact hx
    · exact hx.symm
  rcases this with e | e
  · subst e; have := idx_inj nd h1 k1; omega
  · subst e; have := idx_inj nd h3 k1; omega
theorem Lk.ne {ss : List Str} (nd : ss.Nodup) {t u : Nat} {p q : Str × Str} (hp : Lk ss t p) (hq : Lk ss u q) (h : t ≠ u) : iq p ≠ iq q := by
  rcases Nat.lt_or_gt_of_ne h with h | h
  · exact hp.ne_lt nd hq h
  · exact fun e => hq.ne_lt nd hp h e.symm
theorem Lk.ok {ss : List Str} (nd : ss.Nodup) (nm : ∀ a ∈ ss, Nm a) {t : Nat} {p : Str × Str} (hp : Lk ss t p) : Nm p.1 ∧ Nm p.2 ∧ p.1 ≠ p.2 := by
  obtain ⟨x, y, d, h1, h2, h3, h4⟩ := hp
  have nx := nm x (List.mem_of_getElem? h1)
  have ny := nm y (List.mem_of_getElem? h3)
  have hne : x ≠ y := fun e => by subst e; have := idx_inj nd h1 h3; omega
  rcases h4 with e | e <;> rw [e]
  · exact ⟨nx, ny, hne⟩
  · exact ⟨ny, nx, Ne.symm hne⟩
structure Us (us : List (Str × Str)) : Prop where
  ok : ∀ p ∈ us, Nm p.1 ∧ Nm p.2 ∧ p.1 ≠ p.2
  nd : (nrm ltS us).Nodup
  n0 : us ≠ []
  h6 : us.length ≤ 6
def spots (us : List (Str × Str)) : List Str := sortS (nubS (us.map (·.1) ++ us.map (·.2)))
theorem mem_spots {us : List (Str × Str)} {x : Str} : x ∈ spots us ↔ ∃ p ∈ us, x = p.1 ∨ x = p.2 := by
  unfold spots
  rw [(sortS_perm _).mem_iff, mem_nubS, List.mem_append, List.mem_map, List.mem_map]
  constructor
  · rintro (⟨p, hp, e⟩ | ⟨p, hp, e⟩)
    · exact ⟨p, hp, .inl e.symm⟩
    · exact ⟨p, hp, .inr e.symm⟩
  · rintro ⟨p, hp, e | e⟩
    · exact .inl ⟨p, hp, e.symm⟩
    · exact .inr ⟨p, hp, e.symm⟩
theorem nubS_len (l : List Str) : (nubS l).length ≤ l.length := by
  induction l with
  | nil => exact Nat.zero_le _
  | cons x r ih =>
    unfold nubS
    split
    · simp only [List.length_cons]; omega
    · simp only [List.length_cons]; omega
theorem Us.net {us : List (Str × Str)} (u : Us us) : Ok (spots us) us where
  nm := fun a ha => by
    obtain ⟨p, hp, e⟩ := mem_spots.mp ha
    obtain ⟨n1, n2, _⟩ := u.ok p hp
    rcases e with e | e <;> rw [e]
    · exact n1
    · exact n2
  nd := (sortS_perm _).nodup_iff.mpr (nodup_nubS _)
  n0 := fun e => by
    cases h : us with
    | nil => exact u.n0 h
    | cons p r =>
      have : p.1 ∈ spots us := mem_spots.mpr ⟨p, by rw [h]; exact List.mem_cons_self, .inl rfl⟩
      rw [e] at this; cases this
  hn := by
    unfold spots
    rw [(sortS_perm _).length_eq]
    have := nubS_len (us.map (·.1) ++ us.map (·.2))
    have := u.h6
    simp only [List.length_append, List.length_map] at *
    omega
  li := fun p hp => ⟨mem_spots.mpr ⟨p, hp, .inl rfl⟩, mem_spots.mpr ⟨p, hp, .inr rfl⟩, (u.ok p hp).2.2⟩
  ld := u.nd
  hl := by have := u.h6; omega
def atP (i : Nat) (x : P) : P := match x with
  | .tup [a, b] => if i = 0 then a else b
  | _ => .non
theorem atP_0 (us : List (Str × Str)) : (lsP us).map (atP 0) = nsP (us.map (·.1)) := by
  simp only [lsP, nsP, List.map_map]; rfl
theorem atP_1 (us : List (Str × Str)) : (lsP us).map (atP 1) = nsP (us.map (·.2)) := by
  simp only [lsP, nsP, List.map_map]; rfl
local macro_rules | `(tactic| walk_at "ev") => `(tactic| simp only [wp_nx, wp_rt, sSeq, fin, sIf, sRet_v, sThen, sSet_v, sAsg_v, sExpr_v, sSkip, sBreak, gNm, gTp, gCs, gNl, bVar, bC, bOp, bTest, bAnd, bOr, bNot, bIf, bOfT, bAndV, bOrV, bNil, bCons, bCall, bCB, bTup, bLst, pures, M.bind, M.ret, M.need, M.stuck, List.map_cons, List.map_nil, List.replicate, List.length_cons, List.length_nil, List.length_map, List.cons_append, List.nil_append, List.append_nil, List.getElem?_cons_zero, List.getElem?_cons_succ, List.set_cons_zero, List.set_cons_succ, Option.map_some, Nat.sub_self, Nat.zero_add, Nat.reduceAdd, Nat.reduceSub, List.take_length, Bool.not_true, Bool.not_false, if_true, if_false, ite_true, ite_false, reduceIte, reduceCtorEq, Bool.false_eq_true, oIsi, tyD, tyP, tyA, clsP, clsPs, ansAny, tupOf, lstOf, seqOf, strOf, intOf, dicOf, oLen, bChain, o2b, PF.sizeLine_eq, Nat.reduceLeDiff, Int.reduceLE, Int.reduceLT, decide_true, decide_false, bAlt, mAlt, oAlt, bSeq, bSigns, pureSeq, oIn_v, oInSeq, oInS, oDin, pyD, pyOf, pyOfs, PF.dicKey, oSub_v, oIx, oDget, o2eq, and_self, true_and, and_true, Nx, Gt, Option.isSome_some, Option.isSome_none, isTupD, atI_0, atI_1, PyData.eqv, PyData.eqvAll, shaped_int, Int.reduceBEq, bNeg, Int.reduceNeg, o2sb, bEnum, bSl, bPart, bNoPart, Option.some.injEq, forall_const, lkP, snoc_get, snoc_set, List.take_left, oIsNot, oIs, isNon, bDnew, sDput_v, endPut, dKey_str, dKey_lk, bFld, insOf, bStar, oTuple, putAt, oSorted, colP, pures_snoc, snoc_get2, snoc_take, bCV, bFrz, frzD, sFld_v, endFld, putFP, List.mem_cons, List.not_mem_nil, or_false, true_or, or_true, lk_1, lk_2, lk_22, lk_3, lk_32, lk_33, n_12, n_13, n_23, Nat.reduceLT, bMk, bMkV, bMeth, oListZip, oSl_tup_from1, oSl_tup_to1, oPlus_v, oAdd, oCatL, oCatT, frozen, eqvAll_ns, eqvAll_ls, List.map_id, lkn_has, bCM, bSM, List.drop_succ_cons, List.drop_zero, List.take_succ_cons, List.take_zero, oList, oOwn, oOwnNe, bProp, valF, lAlt, oLenO, oAll, bDic, bGet2, rIsD, lkF_1, lkF_2, lkF_3, lkF_has, lkF_nodes, lkF_links, lkF_size, gTpL, atI_2, atI_3, gIxL, ixN_20, ixN_21, oDivmod, o2i, oInt1, take_set, Int.reduceAdd, Int.reduceMul, Int.reduceSub, Int.reduceMod, Int.reduceDiv, sTwo_v, bRev, bLstM, bBM, gExtend, gAppend, isLst, lkF_part, lkF_drawn, oOwnT, atI_m1, bZip, oMin2, oSl_lst_from1, bRange1, bRange2, oSl_ref, *])
variable {ans : Value → Value → Option Bool} {C : Addr} {A : AH}
theorem fr_of (h : An ans C) {us : List (Str × Str)} (u : Us us) : FR_Net_of C ans ((lsP us).map .p) A = some (.val (.p (net C (spots us) us)) A) := by
  unfold FR_Net_of starF
  have e : us.length ≤ sizeLine := by rw [PF.sizeLine_eq]; have := u.h6; omega
  simp only [List.drop_zero, pures_map, List.length_map, Nat.zero_le, e, and_self, if_true, List.take_zero, List.nil_append]
  exact of_v h u.net (by have := u.h6; omega) u.n0 fun x hx => mem_spots.mp hx
theorem tail_v (h : An ans C) {us : List (Str × Str)} (u : Us us) {v0 v1 v2 v3 v4 v5 v8 v9 v10 : Option D} :
    (sSeq (sSet (bCB oSortSet (bCons (bOp oPlus (bLc (bAlt (bSeq (bVar 7)) (bSigns (bVar 7))) (gNm 10) bYes (bOp oSub (bVar 10) (bC (.int 0))) [10]) (bLc (bAlt (bSeq (bVar 7)) (bSigns (bVar 7))) (gNm 10) bYes (bOp oSub (bVar 10) (bC (.int 1))) [10])) bNil)) 8)
      (sRet (bCall (F__law_is C ans) [] (bCons (bVar 6) (bCons (bVar 8) (bCons (bLc (bSeq (bVar 7)) (gTp 2 (gCs (gNm 9) (gCs (gNm 4) gNl))) bYes (bCall F__law_link [] (bCons (bVar 9) (bCons (bVar 4) bNil))) [9, 4]) bNil))))))
      [v0, v1, v2, v3, v4, v5, some (.p (net C (spots us) us)), some (.p (.lst (lsP us))), v8, v9, v10] A = some (.rt (.p (.bl true)) A) := by
  have l6 := u.h6
  have lc0 : ∀ v, (bLc (bAlt (bSeq (bVar 7)) (bSigns (bVar 7))) (gNm 10) bYes (bOp oSub (bVar 10) (bC (.int 0))) [10]) [v0, v1, v2, v3, v4, v5, v, some (.p (.lst (lsP us))), v8, v9, v10] A = some (.val (.p (.lst (nsP (us.map (·.1))))) A) := fun v => by
    rw [← atP_0]
    refine bLc_map (xs := lsP us) _ (by walk_at "ev") (by rw [PF.sizeLine_eq, List.length_map]; omega) ?_
    intro x hx acc
    obtain ⟨p, hp, rfl⟩ := List.mem_map.mp hx
    refine ⟨_, rfl, ?_⟩
    simp only [wipeD, atP, lkP]
    walk_at "ev"
  have lc1 : ∀ v, (bLc (bAlt (bSeq (bVar 7)) (bSigns (bVar 7))) (gNm 10) bYes (bOp oSub (bVar 10) (bC (.int 1))) [10]) [v0, v1, v2, v3, v4, v5, v, some (.p (.lst (lsP us))), v8, v9, v10] A = some (.val (.p (.lst (nsP (us.map (·.2))))) A) := fun v => by
    rw [← atP_1]
    refine bLc_map (xs := lsP us) _ (by walk_at "ev") (by rw [PF.sizeLine_eq, List.length_map]; omega) ?_
    intro x hx acc
    obtain ⟨p, hp, rfl⟩ := List.mem_map.mp hx
    refine ⟨_, rfl, ?_⟩
    simp only [wipeD, atP, lkP]
    walk_at "ev"
  have lc2 : ∀ v v8, (bLc (bSeq (bVar 7)) (gTp 2 (gCs (gNm 9) (gCs (gNm 4) gNl))) bYes (bCall F__law_link [] (bCons (bVar 9) (bCons (bVar 4) bNil))) [9, 4]) [v0, v1, v2, v3, v4, v5, v, some (.p (.lst (lsP us))), v8, v9, v10] A = some (.val (.p (.lst (lsP (nrm ltS us)))) A) := fun v v8 => by
    rw [← mapLk_id]
    refine bLc_map (xs := lsP us) _ (by walk_at "ev") (by rw [PF.sizeLine_eq, List.length_map]; omega) ?_
    intro x hx acc
    obtain ⟨⟨a, b⟩, hp, rfl⟩ := List.mem_map.mp hx
    have hl := law_link_v (A := A ++ [some (.lst acc)]) (u.ok _ hp).2.2
    clear hx hp lc0 lc1
    refine ⟨_, rfl, ?_⟩
    simp only [wipeD, mapLk, lkP] at hl ⊢
    walk_at "ev"
  have li := law_is_v (A := A) h u.net (.refl _)
  have s1 := strsP_ns (us.map (·.1) ++ us.map (·.2))
  have s2 := sortS_unkey (nubS (us.map (·.1) ++ us.map (·.2)))
  have s3 : (us.map (·.1) ++ us.map (·.2)).length + 1 < scanBound := by
    simp only [List.length_append, List.length_map]; unfold scanBound; omega
  have os : oSortSet [.p (.lst (nsP (us.map (·.1)) ++ nsP (us.map (·.2))))] A = some (.val (.p (.lst (nsP (spots us)))) A) := by
    unfold oSortSet lstOf
    rw [show nsP (us.map (·.1)) ++ nsP (us.map (·.2)) = nsP (us.map (·.1) ++ us.map (·.2)) by simp only [nsP, List.map_append]]
    simp only [s1, s3, if_true, s2]
    rfl
  have l2 : us.length + us.length ≤ 16777216 := by omega
  clear s1 s2 s3 l6
  generalize net C (spots us) us = nt at *
  walk_at "ev"
end PF.k19

/-! text M19 -/
set_option Elab.async false
set_option linter.all false
set_option maxRecDepth 100000
namespace PF.k19
open PySem L2 PySem.Spec PyProof.Rows
local macro_rules | `(tactic| walk_at "ev") => `(tactic| simp only [wp_nx, wp_rt, sSeq, fin, sIf, sRet_v, sThen, sSet_v, sAsg_v, sExpr_v, sSkip, sBreak, gNm, gTp, gCs, gNl, bVar, bC, bOp, bTest, bAnd, bOr, bNot, bIf, bOfT, bAndV, bOrV, bNil, bCons, bCall, bCB, bTup, bLst, pures, M.bind, M.ret, M.need, M.stuck, List.map_cons, List.map_nil, List.replicate, List.length_cons, List.length_nil, List.length_map, List.cons_append, List.nil_append, List.append_nil, List.getElem?_cons_zero, List.getElem?_cons_succ, List.set_cons_zero, List.set_cons_succ, Option.map_some, Nat.sub_self, Nat.zero_add, Nat.reduceAdd, Nat.reduceSub, List.take_length, Bool.not_true, Bool.not_false, if_true, if_false, ite_true, ite_false, reduceIte, reduceCtorEq, Bool.false_eq_true, oIsi, tyD, tyP, tyA, clsP, clsPs, ansAny, tupOf, lstOf, seqOf, strOf, intOf, dicOf, oLen, bChain, o2b, PF.sizeLine_eq, Nat.reduceLeDiff, Int.reduceLE, Int.reduceLT, decide_true, decide_false, bAlt, mAlt, oAlt, bSeq, bSigns, pureSeq, oIn_v, oInSeq, oInS, oDin, pyD, pyOf, pyOfs, PF.dicKey, oSub_v, oIx, oDget, o2eq, and_self, true_and, and_true, Nx, Gt, Option.isSome_some, Option.isSome_none, isTupD, atI_0, atI_1, PyData.eqv, PyData.eqvAll, shaped_int, Int.reduceBEq, bNeg, Int.reduceNeg, o2sb, bEnum, bSl, bPart, bNoPart, Option.some.injEq, forall_const, lkP, snoc_get, snoc_set, List.take_left, oIsNot, oIs, isNon, bDnew, sDput_v, endPut, dKey_str, dKey_lk, bFld, insOf, bStar, oTuple, putAt, oSorted, colP, pures_snoc, snoc_get2, snoc_take, bCV, bFrz, frzD, sFld_v, endFld, putFP, List.mem_cons, List.not_mem_nil, or_false, true_or, or_true, lk_1, lk_2, lk_22, lk_3, lk_32, lk_33, n_12, n_13, n_23, Nat.reduceLT, bMk, bMkV, bMeth, oListZip, oSl_tup_from1, oSl_tup_to1, oPlus_v, oAdd, oCatL, oCatT, frozen, eqvAll_ns, eqvAll_ls, List.map_id, lkn_has, bCM, bSM, List.drop_succ_cons, List.drop_zero, List.take_succ_cons, List.take_zero, oList, oOwn, oOwnNe, bProp, valF, lAlt, oLenO, oAll, bDic, bGet2, rIsD, lkF_1, lkF_2, lkF_3, lkF_has, lkF_nodes, lkF_links, lkF_size, gTpL, atI_2, atI_3, gIxL, ixN_20, ixN_21, oDivmod, o2i, oInt1, take_set, Int.reduceAdd, Int.reduceMul, Int.reduceSub, Int.reduceMod, Int.reduceDiv, sTwo_v, bRev, bLstM, bBM, gExtend, gAppend, isLst, lkF_part, lkF_drawn, oOwnT, atI_m1, bZip, oMin2, oSl_lst_from1, bRange1, bRange2, oSl_ref, *])
local macro_rules | `(tactic| walk_at "st") => `(tactic| (refine wp_seq fun k hk => ?_; walk_at "ev"; refine hk.out _ _ ?_; clear hk k))
local macro_rules | `(tactic| walk_at "start") => `(tactic| (refine defF_wp rfl ?_; simp only [startD, List.map_cons, List.map_nil, List.length_cons, List.length_nil, Nat.zero_add, Nat.reduceAdd, Nat.reduceSub, List.replicate, List.cons_append, List.nil_append, List.append_nil]))
/-! M19: drawn links -/
variable {ans : Value → Value → Option Bool} {C : Addr} {A : AH}
theorem loop_v {j : Nat} (hp : Pot A j) {ss : List Str} (h7 : ss.length = 7) {v5 v6 v7' v8 v9 v10 : Option D} : ∃ (ls : List (Str × Str)) (B : AH) (v3 v4 : Option D),
    (sFor (bRange2 (bCons (bC (.int 1)) (bCons (bC (.int 7)) bNil))) (gNm 3)
      (sSeq (sSet (bOp oSub (bVar 1) (bCall F__law_draw [] (bCons (bVar 0) (bCons (bVar 3) bNil)))) 4)
      (sExpr (bBM gAppend (bVar 2) (bCons (bIf (bTest (bOp (o2eq false) (bCall F__law_draw [] (bCons (bVar 0) (bCons (bC (.int 2)) bNil))) (bC (.int 0)))) (bTup (bCons (bOp oSub (bVar 1) (bVar 3)) (bCons (bVar 4) bNil))) (bTup (bCons (bVar 4) (bCons (bOp oSub (bVar 1) (bVar 3)) bNil)))) bNil)))))
      [some (.ref j), some (.p (.lst (nsP ss))), some (.ref A.length), none, none, v5, v6, v7', v8, v9, v10] (A ++ [some (.lst [])]) =
      some (.nx [some (.ref j), some (.p (.lst (nsP ss))), some (.ref A.length), v3, v4, v5, v6, v7', v8, v9, v10] (B ++ [some (.lst (lsP ls))])) ∧ St j A B ∧ ls.length = 6 ∧ ∀ t p, ls[t]? = some p → Lk ss t p := by
  have e62 : (2 : Int) ^ 62 = 4611686018427387904 := by decide
  have r1 : -(2 ^ 62) ≤ (1 : Int) ∧ (1 : Int) < 2 ^ 62 ∧ -(2 ^ 62) ≤ (7 : Int) ∧ (7 : Int) < 2 ^ 62 := by rw [e62]; omega
  have it : (bRange2 (bCons (bC (.int 1)) (bCons (bC (.int 7)) bNil))) [some (.ref j), some (.p (.lst (nsP ss))), some (.ref A.length), none, none, v5, v6, v7', v8, v9, v10] (A ++ [some (.lst [])]) =
      some (.val ((List.range ((7 : Int) - 1).toNat).map fun (k : Nat) => P.int (1 + (k : Int))) (A ++ [some (.lst [])])) := by
    clear e62 h7
    walk_at "ev"
  have hlen : ((List.range ((7 : Int) - 1).toNat).map fun (k : Nat) => P.int (1 + (k : Int))).length = 6 := by rfl
  obtain ⟨σ', A', loop, ls, B, v3, v4, rfl, rfl, hst, hl, hlk⟩ := sFor_inv (g := gNm 3) (b := (sSeq (sSet (bOp oSub (bVar 1) (bCall F__law_draw [] (bCons (bVar 0) (bCons (bVar 3) bNil)))) 4)
      (sExpr (bBM gAppend (bVar 2) (bCons (bIf (bTest (bOp (o2eq false) (bCall F__law_draw [] (bCons (bVar 0) (bCons (bC (.int 2)) bNil))) (bC (.int 0)))) (bTup (bCons (bOp oSub (bVar 1) (bVar 3)) (bCons (bVar 4) bNil))) (bTup (bCons (bVar 4) (bCons (bOp oSub (bVar 1) (bVar 3)) bNil)))) bNil)))))
    (fun i σ D1 => ∃ (ls : List (Str × Str)) (B : AH) (v3 v4 : Option D), σ = [some (.ref j), some (.p (.lst (nsP ss))), some (.ref A.length), v3, v4, v5, v6, v7', v8, v9, v10] ∧ D1 = B ++ [some (.lst (lsP ls))] ∧ St j A B ∧ ls.length = i ∧ ∀ t p, ls[t]? = some p → Lk ss t p) it
    ⟨[], A, none, none, rfl, rfl, St.refl hp, rfl, (fun t p h => by cases h)⟩ (by
      rintro i x σ D1 hx ⟨ls, B, v3, v4, rfl, rfl, hst, hl, hlk⟩
      have hi := (List.getElem?_eq_some_iff.mp hx).1
      rw [hlen] at hi
      obtain rfl : x = P.int (1 + (i : Int)) := by
        rw [List.getElem?_map, List.getElem?_range (by simpa using hi)] at hx
        exact (Option.some.inj hx).symm
      obtain ⟨d, B1, hd, st1, dr1⟩ := draw_v (hst.pot.app [some (.lst (lsP ls))]) (n := i + 1) (by omega) (by omega)
      obtain ⟨B2, rfl, st2⟩ := st1.cut hst.pot.lt
      obtain ⟨d2, B3, hd2, st3, dr2⟩ := draw_v (st2.pot.app [some (.lst (lsP ls))]) (n := 2) (by omega) (by omega)
      obtain ⟨B4, rfl, st4⟩ := st3.cut st2.pot.lt
      have e1 : (((i + 1 : Nat)) : Int) = 1 + (i : Int) := by omega
      rw [e1] at dr1
      have dr2 : F__law_draw [.ref j, .p (.int 2)] (B2 ++ [some (.lst (lsP ls))]) = some (.val (.p (.int d2)) (B4 ++ [some (.lst (lsP ls))])) := dr2
      obtain ⟨y, hy⟩ : ∃ y, ss[d]? = some y := ⟨ss[d]'(by omega), List.getElem?_eq_getElem _⟩
      obtain ⟨w, hw⟩ : ∃ w, ss[i + 1]? = some w := ⟨ss[i + 1]'(by omega), List.getElem?_eq_getElem _⟩
      have a1 : atI (nsP ss) (d : Int) = some (.str y) := by rw [atI_nat, List.getElem?_map, hy]; rfl
      have a2 : atI (nsP ss) (1 + (i : Int)) = some (.str w) := by rw [← e1, atI_nat, List.getElem?_map, hw]; rfl
      have nst := (hst.trans st2).trans st4
      have hl4 : B4.length = A.length := nst.len
      have hl2 : B2.length = A.length := (hst.trans st2).len
      have hlB : B.length = A.length := hst.len
      have g0 : (B ++ [some (AO.lst (lsP ls))])[A.length]? = some (some (.lst (lsP ls))) := by rw [← hlB]; exact snoc_get _ _
      have g2 : (B2 ++ [some (AO.lst (lsP ls))])[A.length]? = some (some (.lst (lsP ls))) := by rw [← hl2]; exact snoc_get _ _
      have g4 : (B4 ++ [some (AO.lst (lsP ls))])[A.length]? = some (some (.lst (lsP ls))) := by rw [← hl4]; exact snoc_get _ _
      have s4 : ∀ y, (B4 ++ [some (AO.lst (lsP ls))]).set A.length y = B4 ++ [y] := fun y => by rw [← hl4]; exact snoc_set _ _ _
      have l1 : ls.length < 16777216 := by omega
      have fin_ : ∀ p, (p = (w, y) ∨ p = (y, w)) → ∀ v, ∃ (ls' : List (Str × Str)) (B' : AH) (v3 v4 : Option D), [some (.ref j), some (.p (.lst (nsP ss))), some (.ref A.length), some (.p (.int (1 + (i : Int)))), v, v5, v6, v7', v8, v9, v10] = [some (.ref j), some (.p (.lst (nsP ss))), some (.ref A.length), v3, v4, v5, v6, v7', v8, v9, v10] ∧
          B4 ++ [some (AO.lst (lsP ls ++ [lkP p]))] = B' ++ [some (.lst (lsP ls'))] ∧ St j A B' ∧ ls'.length = i + 1 ∧ ∀ t p, ls'[t]? = some p → Lk ss t p := fun p hp v =>
        ⟨ls ++ [p], B4, _, _, rfl, by simp only [lsP, List.map_append, List.map_singleton], nst, by simp [hl], fun t q hq => by
          by_cases ht : t < ls.length
          · rw [List.getElem?_append_left ht] at hq; exact hlk t q hq
          · rw [List.getElem?_append_right (by omega)] at hq
            have : t - ls.length = 0 := by
              have := (List.getElem?_eq_some_iff.mp hq).1
              simpa using this
            rw [this] at hq
            have ht2 : t = i := by omega
            simp only [List.getElem?_cons_zero, Option.some.injEq] at hq
            subst hq; subst ht2
            exact ⟨w, y, d, hw, by omega, hy, hp⟩⟩
      have fin' := Hid.mk fin_
      by_cases hz : d2 = 0
      · have b0 : ((d2 : Int) == 0) = true := by rw [hz]; rfl
        clear fin_ hx st1 st2 st3 st4 hst hl2 hl4 hlB hi hl hlk nst e1 hy hw it r1 e62 hlen h7 hp hd hz
        walk_at "ev"
        exact fin'.out (w, y) (.inl rfl) _
      · have b0 : ((d2 : Int) == 0) = false := by simpa using hz
        clear fin_ hx st1 st2 st3 st4 hst hl2 hl4 hlB hi hl hlk nst e1 hy hw it r1 e62 hlen h7 hp hd hz
        walk_at "ev"
        exact fin'.out (y, w) (.inr rfl) _)
  rw [hlen] at hl
  exact ⟨ls, B, v3, v4, loop, hst, hl, hlk⟩
end PF.k19

/-! text M20 -/
set_option Elab.async false
set_option linter.all false
set_option maxRecDepth 100000
namespace PF.k19
open PySem L2 PySem.Spec PyProof.Rows
local macro_rules | `(tactic| walk_at "ev") => `(tactic| simp only [wp_nx, wp_rt, sSeq, fin, sIf, sRet_v, sThen, sSet_v, sAsg_v, sExpr_v, sSkip, sBreak, gNm, gTp, gCs, gNl, bVar, bC, bOp, bTest, bAnd, bOr, bNot, bIf, bOfT, bAndV, bOrV, bNil, bCons, bCall, bCB, bTup, bLst, pures, M.bind, M.ret, M.need, M.stuck, List.map_cons, List.map_nil, List.replicate, List.length_cons, List.length_nil, List.length_map, List.cons_append, List.nil_append, List.append_nil, List.getElem?_cons_zero, List.getElem?_cons_succ, List.set_cons_zero, List.set_cons_succ, Option.map_some, Nat.sub_self, Nat.zero_add, Nat.reduceAdd, Nat.reduceSub, List.take_length, Bool.not_true, Bool.not_false, if_true, if_false, ite_true, ite_false, reduceIte, reduceCtorEq, Bool.false_eq_true, oIsi, tyD, tyP, tyA, clsP, clsPs, ansAny, tupOf, lstOf, seqOf, strOf, intOf, dicOf, oLen, bChain, o2b, PF.sizeLine_eq, Nat.reduceLeDiff, Int.reduceLE, Int.reduceLT, decide_true, decide_false, bAlt, mAlt, oAlt, bSeq, bSigns, pureSeq, oIn_v, oInSeq, oInS, oDin, pyD, pyOf, pyOfs, PF.dicKey, oSub_v, oIx, oDget, o2eq, and_self, true_and, and_true, Nx, Gt, Option.isSome_some, Option.isSome_none, isTupD, atI_0, atI_1, PyData.eqv, PyData.eqvAll, shaped_int, Int.reduceBEq, bNeg, Int.reduceNeg, o2sb, bEnum, bSl, bPart, bNoPart, Option.some.injEq, forall_const, lkP, snoc_get, snoc_set, List.take_left, oIsNot, oIs, isNon, bDnew, sDput_v, endPut, dKey_str, dKey_lk, bFld, insOf, bStar, oTuple, putAt, oSorted, colP, pures_snoc, snoc_get2, snoc_take, bCV, bFrz, frzD, sFld_v, endFld, putFP, List.mem_cons, List.not_mem_nil, or_false, true_or, or_true, lk_1, lk_2, lk_22, lk_3, lk_32, lk_33, n_12, n_13, n_23, Nat.reduceLT, bMk, bMkV, bMeth, oListZip, oSl_tup_from1, oSl_tup_to1, oPlus_v, oAdd, oCatL, oCatT, frozen, eqvAll_ns, eqvAll_ls, List.map_id, lkn_has, bCM, bSM, List.drop_succ_cons, List.drop_zero, List.take_succ_cons, List.take_zero, oList, oOwn, oOwnNe, bProp, valF, lAlt, oLenO, oAll, bDic, bGet2, rIsD, lkF_1, lkF_2, lkF_3, lkF_has, lkF_nodes, lkF_links, lkF_size, gTpL, atI_2, atI_3, gIxL, ixN_20, ixN_21, oDivmod, o2i, oInt1, take_set, Int.reduceAdd, Int.reduceMul, Int.reduceSub, Int.reduceMod, Int.reduceDiv, sTwo_v, bRev, bLstM, bBM, gExtend, gAppend, isLst, lkF_part, lkF_drawn, oOwnT, atI_m1, bZip, oMin2, oSl_lst_from1, bRange1, bRange2, oSl_ref, atI_4, atI_5, Nat.lt_irrefl, o2L, oAbs, *])
local macro_rules | `(tactic| walk_at "st") => `(tactic| (refine wp_seq fun k hk => ?_; walk_at "ev"; refine hk.out _ _ ?_; clear hk k))
local macro_rules | `(tactic| walk_at "start") => `(tactic| (refine defF_wp rfl ?_; simp only [startD, List.map_cons, List.map_nil, List.length_cons, List.length_nil, Nat.zero_add, Nat.reduceAdd, Nat.reduceSub, List.replicate, List.cons_append, List.nil_append, List.append_nil]))
/-! M20: the net of drawn links, the whole -/
variable {ans : Value → Value → Option Bool} {C : Addr} {A : AH}
theorem lk_us {ss : List Str} (nd : ss.Nodup) (nm : ∀ a ∈ ss, Nm a) {us : List (Str × Str)} {ts : List Nat} (hl : ts.length = us.length) (ht : ts.Nodup) (hk : ∀ (i t : Nat) (p : Str × Str), ts[i]? = some t → us[i]? = some p → Lk ss t p) (n0 : us ≠ []) (h6 : us.length ≤ 6) : Us us where
  ok := fun p hp => by
    obtain ⟨i, hi⟩ := List.getElem?_of_mem hp
    have hlt := (List.getElem?_eq_some_iff.mp hi).1
    exact (hk i (ts[i]'(by omega)) p (List.getElem?_eq_getElem _) hi).ok nd nm
  nd := by
    refine List.pairwise_iff_getElem.mpr fun i j hi hj hij => ?_
    simp only [List.length_map] at hi hj
    have a1 := hk i (ts[i]'(by omega)) us[i] (List.getElem?_eq_getElem _) (List.getElem?_eq_getElem _)
    have a2 := hk j (ts[j]'(by omega)) us[j] (List.getElem?_eq_getElem _) (List.getElem?_eq_getElem _)
    have hne : (ts[i]'(by omega)) ≠ (ts[j]'(by omega)) := (List.pairwise_iff_getElem.mp ht) i j (by omega) (by omega) hij
    have := a1.ne nd a2 hne
    simpa using this
  n0 := n0
  h6 := h6

theorem Us.perm {us vs : List (Str × Str)} (u : Us us) (h : us.Perm vs) : Us vs where
  ok := fun p hp => u.ok p (h.mem_iff.mpr hp)
  nd := (h.map (inq ltS)).nodup_iff.mp u.nd
  n0 := fun e => u.n0 (by rw [e] at h; exact h.eq_nil)
  h6 := by rw [← h.length_eq]; exact u.h6
theorem spots_perm {us vs : List (Str × Str)} (u : Us us) (h : us.Perm vs) : (spots us).Perm (spots vs) :=
  nodup_perm u.net.nd (u.perm h).net.nd fun x => by
    rw [mem_spots, mem_spots]
    exact ⟨fun ⟨p, hp, e⟩ => ⟨p, h.mem_iff.mp hp, e⟩, fun ⟨p, hp, e⟩ => ⟨p, h.mem_iff.mpr hp, e⟩⟩
theorem of_0 (h : An ans C) {j : Nat} {ss : List Str} {B B' : AH} {p0 p1 p2 p3 p4 p5 : Str × Str} {v3 v4 : Option D} {N : EnvD → AH → Prop} {R : D → AH → Prop} {n w : Nat} (hn : B.length = n) (hn' : B'.length = n) (hw : w = 0) (u : Us [p5, p2, p0])
    (dr : F__law_draw [.ref j, .p (.int 3)] (B ++ [some (.lst (lsP [p0, p1, p2, p3, p4, p5]))]) = some (.val (.p (.int w)) (B' ++ [some (.lst (lsP [p0, p1, p2, p3, p4, p5]))])))
    (hR : ∀ o, R (.p (.bl true)) (B' ++ [o])) :
    Wp ((sSeq (sSet (bCall F__law_draw [] (bCons (bVar 0) (bCons (bC (.int 3)) bNil))) 5)
      (sSeq (sIf (bTest (bOp (o2eq false) (bVar 5) (bC (.int 0))))
      (sSeq (sSet (bSM C (FR_Net_of C ans) (bC (.rf C)) (bCons (bOp oSub (bVar 2) (bC (.int 5))) (bCons (bOp oSub (bVar 2) (bC (.int 2))) (bCons (bOp oSub (bVar 2) (bC (.int 0))) bNil)))) 6)
      (sSet (bLst (bCons (bOp oSub (bVar 2) (bC (.int 5))) (bCons (bOp oSub (bVar 2) (bC (.int 2))) (bCons (bOp oSub (bVar 2) (bC (.int 0))) bNil)))) 7))
      (sIf (bTest (bOp (o2eq false) (bVar 5) (bC (.int 1))))
      (sSeq (sSet (bSM C (FR_Net_of C ans) (bC (.rf C)) (bCons (bOp oSub (bVar 2) (bC (.int 1))) (bCons (bOp oSub (bVar 2) (bC (.int 0))) (bCons (bOp oSub (bVar 2) (bC (.int 3))) (bCons (bOp oSub (bVar 2) (bC (.int 4))) bNil))))) 6)
      (sSet (bOp oPlus (bSl (bVar 2) bNoPart (bPart (bC (.int 2)))) (bSl (bVar 2) (bPart (bC (.int 3))) (bPart (bC (.int 5))))) 7))
      (sSeq (sSet (bSM C (FR_Net_of C ans) (bC (.rf C)) (bCons (bOp oSub (bVar 2) (bC (.int 0))) (bCons (bOp oSub (bVar 2) (bC (.int 1))) (bCons (bOp oSub (bVar 2) (bC (.int 2))) (bCons (bOp oSub (bVar 2) (bC (.int 3))) (bCons (bOp oSub (bVar 2) (bC (.int 4))) (bCons (bOp oSub (bVar 2) (bC (.int 5))) bNil))))))) 6)
      (sSet (bFrz (bVar 2)) 7))))
      (sSeq (sSet (bCB oSortSet (bCons (bOp oPlus (bLc (bAlt (bSeq (bVar 7)) (bSigns (bVar 7))) (gNm 10) bYes (bOp oSub (bVar 10) (bC (.int 0))) [10]) (bLc (bAlt (bSeq (bVar 7)) (bSigns (bVar 7))) (gNm 10) bYes (bOp oSub (bVar 10) (bC (.int 1))) [10])) bNil)) 8)
      (sRet (bCall (F__law_is C ans) [] (bCons (bVar 6) (bCons (bVar 8) (bCons (bLc (bSeq (bVar 7)) (gTp 2 (gCs (gNm 9) (gCs (gNm 4) gNl))) bYes (bCall F__law_link [] (bCons (bVar 9) (bCons (bVar 4) bNil))) [9, 4]) bNil)))))))) 
      [some (.ref j), some (.p (.lst (nsP ss))), some (.ref n), v3, v4, none, none, none, none, none, none] (B ++ [some (.lst (lsP [p0, p1, p2, p3, p4, p5]))])) N R := by
  have fo := fr_of (A := B' ++ [some (.lst (lsP [p0, p1, p2, p3, p4, p5]))]) h u
  have hg : (B' ++ [some (AO.lst (lsP [p0, p1, p2, p3, p4, p5]))])[n]? = some (some (.lst (lsP [p0, p1, p2, p3, p4, p5]))) := by rw [← hn']; exact snoc_get _ _
  have hs : ∀ y, (B' ++ [some (AO.lst (lsP [p0, p1, p2, p3, p4, p5]))]).set n y = B' ++ [y] := fun y => by rw [← hn']; exact snoc_set _ _ _
  have c2 : cutP (lsP [p0, p1, p2, p3, p4, p5]) none (some 2) = lsP [p0, p1] := rfl
  have c35 : cutP (lsP [p0, p1, p2, p3, p4, p5]) (some 3) (some 5) = lsP [p3, p4] := rfl
  have b0 : ((w : Int) == 0) = true := by rw [hw]; rfl
  have tl := fun (D1 : AH) v0 v1 v2 v3 v4 v5 v8 v9 v10 => tail_v (A := D1) h u (v0 := v0) (v1 := v1) (v2 := v2) (v3 := v3) (v4 := v4) (v5 := v5) (v8 := v8) (v9 := v9) (v10 := v10)
  clear hn hn' hw h
  simp only [lsP, List.map_cons, List.map_nil, lkP] at fo hg hs dr c2 c35 tl ⊢
  generalize net C (spots [p5, p2, p0]) [p5, p2, p0] = nt at *
  walk_at "st"
  walk_at "st"
  rw [tl]
  exact hR _

theorem of_1 (h : An ans C) {j : Nat} {ss : List Str} {B B' : AH} {p0 p1 p2 p3 p4 p5 : Str × Str} {v3 v4 : Option D} {N : EnvD → AH → Prop} {R : D → AH → Prop} {n w : Nat} (hn : B.length = n) (hn' : B'.length = n) (hw : w = 1) (u : Us [p0, p1, p3, p4])
    (dr : F__law_draw [.ref j, .p (.int 3)] (B ++ [some (.lst (lsP [p0, p1, p2, p3, p4, p5]))]) = some (.val (.p (.int w)) (B' ++ [some (.lst (lsP [p0, p1, p2, p3, p4, p5]))])))
    (hR : ∀ o, R (.p (.bl true)) (B' ++ [o])) :
    Wp ((sSeq (sSet (bCall F__law_draw [] (bCons (bVar 0) (bCons (bC (.int 3)) bNil))) 5)
      (sSeq (sIf (bTest (bOp (o2eq false) (bVar 5) (bC (.int 0))))
      (sSeq (sSet (bSM C (FR_Net_of C ans) (bC (.rf C)) (bCons (bOp oSub (bVar 2) (bC (.int 5))) (bCons (bOp oSub (bVar 2) (bC (.int 2))) (bCons (bOp oSub (bVar 2) (bC (.int 0))) bNil)))) 6)
      (sSet (bLst (bCons (bOp oSub (bVar 2) (bC (.int 5))) (bCons (bOp oSub (bVar 2) (bC (.int 2))) (bCons (bOp oSub (bVar 2) (bC (.int 0))) bNil)))) 7))
      (sIf (bTest (bOp (o2eq false) (bVar 5) (bC (.int 1))))
      (sSeq (sSet (bSM C (FR_Net_of C ans) (bC (.rf C)) (bCons (bOp oSub (bVar 2) (bC (.int 1))) (bCons (bOp oSub (bVar 2) (bC (.int 0))) (bCons (bOp oSub (bVar 2) (bC (.int 3))) (bCons (bOp oSub (bVar 2) (bC (.int 4))) bNil))))) 6)
      (sSet (bOp oPlus (bSl (bVar 2) bNoPart (bPart (bC (.int 2)))) (bSl (bVar 2) (bPart (bC (.int 3))) (bPart (bC (.int 5))))) 7))
      (sSeq (sSet (bSM C (FR_Net_of C ans) (bC (.rf C)) (bCons (bOp oSub (bVar 2) (bC (.int 0))) (bCons (bOp oSub (bVar 2) (bC (.int 1))) (bCons (bOp oSub (bVar 2) (bC (.int 2))) (bCons (bOp oSub (bVar 2) (bC (.int 3))) (bCons (bOp oSub (bVar 2) (bC (.int 4))) (bCons (bOp oSub (bVar 2) (bC (.int 5))) bNil))))))) 6)
      (sSet (bFrz (bVar 2)) 7))))
      (sSeq (sSet (bCB oSortSet (bCons (bOp oPlus (bLc (bAlt (bSeq (bVar 7)) (bSigns (bVar 7))) (gNm 10) bYes (bOp oSub (bVar 10) (bC (.int 0))) [10]) (bLc (bAlt (bSeq (bVar 7)) (bSigns (bVar 7))) (gNm 10) bYes (bOp oSub (bVar 10) (bC (.int 1))) [10])) bNil)) 8)
      (sRet (bCall (F__law_is C ans) [] (bCons (bVar 6) (bCons (bVar 8) (bCons (bLc (bSeq (bVar 7)) (gTp 2 (gCs (gNm 9) (gCs (gNm 4) gNl))) bYes (bCall F__law_link [] (bCons (bVar 9) (bCons (bVar 4) bNil))) [9, 4]) bNil)))))))) 
      [some (.ref j), some (.p (.lst (nsP ss))), some (.ref n), v3, v4, none, none, none, none, none, none] (B ++ [some (.lst (lsP [p0, p1, p2, p3, p4, p5]))])) N R := by
  have pm : ([p0, p1, p3, p4] : List (Str × Str)).Perm [p1, p0, p3, p4] := .swap _ _ _
  have fo := fr_of (A := B' ++ [some (.lst (lsP [p0, p1, p2, p3, p4, p5]))]) h (u.perm pm)
  rw [← net_eq C (spots_perm u pm) (pm.map _)] at fo
  clear pm
  have hg : (B' ++ [some (AO.lst (lsP [p0, p1, p2, p3, p4, p5]))])[n]? = some (some (.lst (lsP [p0, p1, p2, p3, p4, p5]))) := by rw [← hn']; exact snoc_get _ _
  have hs : ∀ y, (B' ++ [some (AO.lst (lsP [p0, p1, p2, p3, p4, p5]))]).set n y = B' ++ [y] := fun y => by rw [← hn']; exact snoc_set _ _ _
  have c2 : cutP (lsP [p0, p1, p2, p3, p4, p5]) none (some 2) = lsP [p0, p1] := rfl
  have c35 : cutP (lsP [p0, p1, p2, p3, p4, p5]) (some 3) (some 5) = lsP [p3, p4] := rfl
  have b0 : ((w : Int) == 0) = false := by rw [hw]; rfl
  have b1 : ((w : Int) == 1) = true := by rw [hw]; rfl
  have tl := fun (D1 : AH) v0 v1 v2 v3 v4 v5 v8 v9 v10 => tail_v (A := D1) h u (v0 := v0) (v1 := v1) (v2 := v2) (v3 := v3) (v4 := v4) (v5 := v5) (v8 := v8) (v9 := v9) (v10 := v10)
  clear hn hn' hw h
  simp only [lsP, List.map_cons, List.map_nil, lkP] at fo hg hs dr c2 c35 tl ⊢
  generalize net C (spots [p0, p1, p3, p4]) [p0, p1, p3, p4] = nt at *
  walk_at "st"
  walk_at "st"
  rw [tl]
  exact hR _

theorem of_2 (h : An ans C) {j : Nat} {ss : List Str} {B B' : AH} {p0 p1 p2 p3 p4 p5 : Str × Str} {v3 v4 : Option D} {N : EnvD → AH → Prop} {R : D → AH → Prop} {n w : Nat} (hn : B.length = n) (hn' : B'.length = n) (hw : w = 2) (u : Us [p0, p1, p2, p3, p4, p5])
    (dr : F__law_draw [.ref j, .p (.int 3)] (B ++ [some (.lst (lsP [p0, p1, p2, p3, p4, p5]))]) = some (.val (.p (.int w)) (B' ++ [some (.lst (lsP [p0, p1, p2, p3, p4, p5]))])))
    (hR : ∀ o, R (.p (.bl true)) (B' ++ [o])) :
    Wp ((sSeq (sSet (bCall F__law_draw [] (bCons (bVar 0) (bCons (bC (.int 3)) bNil))) 5)
      (sSeq (sIf (bTest (bOp (o2eq false) (bVar 5) (bC (.int 0))))
      (sSeq (sSet (bSM C (FR_Net_of C ans) (bC (.rf C)) (bCons (bOp oSub (bVar 2) (bC (.int 5))) (bCons (bOp oSub (bVar 2) (bC (.int 2))) (bCons (bOp oSub (bVar 2) (bC (.int 0))) bNil)))) 6)
      (sSet (bLst (bCons (bOp oSub (bVar 2) (bC (.int 5))) (bCons (bOp oSub (bVar 2) (bC (.int 2))) (bCons (bOp oSub (bVar 2) (bC (.int 0))) bNil)))) 7))
      (sIf (bTest (bOp (o2eq false) (bVar 5) (bC (.int 1))))
      (sSeq (sSet (bSM C (FR_Net_of C ans) (bC (.rf C)) (bCons (bOp oSub (bVar 2) (bC (.int 1))) (bCons (bOp oSub (bVar 2) (bC (.int 0))) (bCons (bOp oSub (bVar 2) (bC (.int 3))) (bCons (bOp oSub (bVar 2) (bC (.int 4))) bNil))))) 6)
      (sSet (bOp oPlus (bSl (bVar 2) bNoPart (bPart (bC (.int 2)))) (bSl (bVar 2) (bPart (bC (.int 3))) (bPart (bC (.int 5))))) 7))
      (sSeq (sSet (bSM C (FR_Net_of C ans) (bC (.rf C)) (bCons (bOp oSub (bVar 2) (bC (.int 0))) (bCons (bOp oSub (bVar 2) (bC (.int 1))) (bCons (bOp oSub (bVar 2) (bC (.int 2))) (bCons (bOp oSub (bVar 2) (bC (.int 3))) (bCons (bOp oSub (bVar 2) (bC (.int 4))) (bCons (bOp oSub (bVar 2) (bC (.int 5))) bNil))))))) 6)
      (sSet (bFrz (bVar 2)) 7))))
      (sSeq (sSet (bCB oSortSet (bCons (bOp oPlus (bLc (bAlt (bSeq (bVar 7)) (bSigns (bVar 7))) (gNm 10) bYes (bOp oSub (bVar 10) (bC (.int 0))) [10]) (bLc (bAlt (bSeq (bVar 7)) (bSigns (bVar 7))) (gNm 10) bYes (bOp oSub (bVar 10) (bC (.int 1))) [10])) bNil)) 8)
      (sRet (bCall (F__law_is C ans) [] (bCons (bVar 6) (bCons (bVar 8) (bCons (bLc (bSeq (bVar 7)) (gTp 2 (gCs (gNm 9) (gCs (gNm 4) gNl))) bYes (bCall F__law_link [] (bCons (bVar 9) (bCons (bVar 4) bNil))) [9, 4]) bNil)))))))) 
      [some (.ref j), some (.p (.lst (nsP ss))), some (.ref n), v3, v4, none, none, none, none, none, none] (B ++ [some (.lst (lsP [p0, p1, p2, p3, p4, p5]))])) N R := by
  have fo := fr_of (A := B' ++ [some (.lst (lsP [p0, p1, p2, p3, p4, p5]))]) h u
  have hg : (B' ++ [some (AO.lst (lsP [p0, p1, p2, p3, p4, p5]))])[n]? = some (some (.lst (lsP [p0, p1, p2, p3, p4, p5]))) := by rw [← hn']; exact snoc_get _ _
  have hs : ∀ y, (B' ++ [some (AO.lst (lsP [p0, p1, p2, p3, p4, p5]))]).set n y = B' ++ [y] := fun y => by rw [← hn']; exact snoc_set _ _ _
  have c2 : cutP (lsP [p0, p1, p2, p3, p4, p5]) none (some 2) = lsP [p0, p1] := rfl
  have c35 : cutP (lsP [p0, p1, p2, p3, p4, p5]) (some 3) (some 5) = lsP [p3, p4] := rfl
  have b0 : ((w : Int) == 0) = false := by rw [hw]; rfl
  have b1 : ((w : Int) == 1) = false := by rw [hw]; rfl
  have tl := fun (D1 : AH) v0 v1 v2 v3 v4 v5 v8 v9 v10 => tail_v (A := D1) h u (v0 := v0) (v1 := v1) (v2 := v2) (v3 := v3) (v4 := v4) (v5 := v5) (v8 := v8) (v9 := v9) (v10 := v10)
  clear hn hn' hw h
  simp only [lsP, List.map_cons, List.map_nil, lkP] at fo hg hs dr c2 c35 tl ⊢
  generalize net C (spots [p0, p1, p2, p3, p4, p5]) [p0, p1, p2, p3, p4, p5] = nt at *
  walk_at "st"
  walk_at "st"
  rw [tl]
  exact hR _
end PF.k19

/-! text M21 -/
set_option Elab.async false
set_option linter.all false
set_option maxRecDepth 100000
namespace PF.k19
open PySem L2 PySem.Spec PyProof.Rows
local macro_rules | `(tactic| walk_at "ev") => `(tactic| simp only [wp_nx, wp_rt, sSeq, fin, sIf, sRet_v, sThen, sSet_v, sAsg_v, sExpr_v, sSkip, sBreak, gNm, gTp, gCs, gNl, bVar, bC, bOp, bTest, bAnd, bOr, bNot, bIf, bOfT, bAndV, bOrV, bNil, bCons, bCall, bCB, bTup, bLst, pures, M.bind, M.ret, M.need, M.stuck, List.map_cons, List.map_nil, List.replicate, List.length_cons, List.length_nil, List.length_map, List.cons_append, List.nil_append, List.append_nil, List.getElem?_cons_zero, List.getElem?_cons_succ, List.set_cons_zero, List.set_cons_succ, Option.map_some, Nat.sub_self, Nat.zero_add, Nat.reduceAdd, Nat.reduceSub, List.take_length, Bool.not_true, Bool.not_false, if_true, if_false, ite_true, ite_false, reduceIte, reduceCtorEq, Bool.false_eq_true, oIsi, tyD, tyP, tyA, clsP, clsPs, ansAny, tupOf, lstOf, seqOf, strOf, intOf, dicOf, oLen, bChain, o2b, PF.sizeLine_eq, Nat.reduceLeDiff, Int.reduceLE, Int.reduceLT, decide_true, decide_false, bAlt, mAlt, oAlt, bSeq, bSigns, pureSeq, oIn_v, oInSeq, oInS, oDin, pyD, pyOf, pyOfs, PF.dicKey, oSub_v, oIx, oDget, o2eq, and_self, true_and, and_true, Nx, Gt, Option.isSome_some, Option.isSome_none, isTupD, atI_0, atI_1, PyData.eqv, PyData.eqvAll, shaped_int, Int.reduceBEq, bNeg, Int.reduceNeg, o2sb, bEnum, bSl, bPart, bNoPart, Option.some.injEq, forall_const, lkP, snoc_get, snoc_set, List.take_left, oIsNot, oIs, isNon, bDnew, sDput_v, endPut, dKey_str, dKey_lk, bFld, insOf, bStar, oTuple, putAt, oSorted, colP, pures_snoc, snoc_get2, snoc_take, bCV, bFrz, frzD, sFld_v, endFld, putFP, List.mem_cons, List.not_mem_nil, or_false, true_or, or_true, lk_1, lk_2, lk_22, lk_3, lk_32, lk_33, n_12, n_13, n_23, Nat.reduceLT, bMk, bMkV, bMeth, oListZip, oSl_tup_from1, oSl_tup_to1, oPlus_v, oAdd, oCatL, oCatT, frozen, eqvAll_ns, eqvAll_ls, List.map_id, lkn_has, bCM, bSM, List.drop_succ_cons, List.drop_zero, List.take_succ_cons, List.take_zero, oList, oOwn, oOwnNe, bProp, valF, lAlt, oLenO, oAll, bDic, bGet2, rIsD, lkF_1, lkF_2, lkF_3, lkF_has, lkF_nodes, lkF_links, lkF_size, gTpL, atI_2, atI_3, gIxL, ixN_20, ixN_21, oDivmod, o2i, oInt1, take_set, Int.reduceAdd, Int.reduceMul, Int.reduceSub, Int.reduceMod, Int.reduceDiv, sTwo_v, bRev, bLstM, bBM, gExtend, gAppend, isLst, lkF_part, lkF_drawn, oOwnT, atI_m1, bZip, oMin2, oSl_lst_from1, bRange1, bRange2, oSl_ref, atI_4, atI_5, Nat.lt_irrefl, o2L, oAbs, *])
local macro_rules | `(tactic| walk_at "st") => `(tactic| (refine wp_seq fun k hk => ?_; walk_at "ev"; refine hk.out _ _ ?_; clear hk k))
local macro_rules | `(tactic| walk_at "start") => `(tactic| (refine defF_wp rfl ?_; simp only [startD, List.map_cons, List.map_nil, List.length_cons, List.length_nil, Nat.zero_add, Nat.reduceAdd, Nat.reduceSub, List.replicate, List.cons_append, List.nil_append, List.append_nil]))
/-! M21: the law -/
variable {ans : Value → Value → Option Bool} {C : Addr} {A : AH}
theorem of_right_v (h : An ans C) {j : Nat} (hp : Pot A j) {ss : List Str} (n : Ns ss) (h7 : ss.length = 7) : ∃ B, St j A B ∧ F__law_of_right C ans [.ref j, .p (.lst (nsP ss))] A = some (.val (.p (.bl true)) B) := by
  obtain ⟨ls, B, v3, v4, loop, hst, hl, hlk⟩ := loop_v hp h7 (v5 := none) (v6 := none) (v7' := none) (v8 := none) (v9 := none) (v10 := none)
  obtain ⟨w, D1, hw, st1, dr⟩ := draw_v (hst.pot.app [some (.lst (lsP ls))]) (n := 3) (by decide) (by decide)
  obtain ⟨B', rfl, st2⟩ := st1.cut hst.pot.lt
  have nst := hst.trans st2
  obtain ⟨p0, p1, p2, p3, p4, p5, rfl⟩ : ∃ p0 p1 p2 p3 p4 p5, ls = [p0, p1, p2, p3, p4, p5] := by
    match ls, hl with
    | [p0, p1, p2, p3, p4, p5], _ => exact ⟨p0, p1, p2, p3, p4, p5, rfl⟩
  have k0 := hlk 0 p0 rfl
  have k1 := hlk 1 p1 rfl
  have k2 := hlk 2 p2 rfl
  have k3 := hlk 3 p3 rfl
  have k4 := hlk 4 p4 rfl
  have k5 := hlk 5 p5 rfl
  have u0 : Us [p5, p2, p0] := lk_us n.nd n.nm (ts := [5, 2, 0]) rfl (by decide) (by
    intro i t p h1 h2
    match i, h1, h2 with
    | 0, h1, h2 => cases h1; cases h2; exact k5
    | 1, h1, h2 => cases h1; cases h2; exact k2
    | 2, h1, h2 => cases h1; cases h2; exact k0
    | i + 3, h1, h2 => cases h1) (by simp) (by simp)
  have u1 : Us [p0, p1, p3, p4] := lk_us n.nd n.nm (ts := [0, 1, 3, 4]) rfl (by decide) (by
    intro i t p h1 h2
    match i, h1, h2 with
    | 0, h1, h2 => cases h1; cases h2; exact k0
    | 1, h1, h2 => cases h1; cases h2; exact k1
    | 2, h1, h2 => cases h1; cases h2; exact k3
    | 3, h1, h2 => cases h1; cases h2; exact k4
    | i + 4, h1, h2 => cases h1) (by simp) (by simp)
  have u2 : Us [p0, p1, p2, p3, p4, p5] := lk_us n.nd n.nm (ts := [0, 1, 2, 3, 4, 5]) rfl (by decide) (by
    intro i t p h1 h2
    match i, h1, h2 with
    | 0, h1, h2 => cases h1; cases h2; exact k0
    | 1, h1, h2 => cases h1; cases h2; exact k1
    | 2, h1, h2 => cases h1; cases h2; exact k2
    | 3, h1, h2 => cases h1; cases h2; exact k3
    | 4, h1, h2 => cases h1; cases h2; exact k4
    | 5, h1, h2 => cases h1; cases h2; exact k5
    | i + 6, h1, h2 => cases h1) (by simp) (by simp)
  refine ⟨B', nst, ?_⟩
  have hR : ∀ o, fin A.length (.p (.bl true)) (B' ++ [o]) = some (.val (.p (.bl true)) B') := fun o => by
    unfold fin
    simp only []
    rw [← nst.len, List.take_left]
  unfold F__law_of_right B__law_of_right
  walk_at "start"
  refine wp_seq fun k hk => ?_
  simp only [sSet_v, sAsg_v, sThen, bLstM, M.bind, bNil, M.ret, pures, M.need, List.length_nil, Nat.zero_le, if_true, gNm, wp_nx, List.set_cons_succ, List.set_cons_zero]
  refine hk.out _ _ ?_
  clear hk k
  refine wp_at loop ?_
  rcases (by omega : w = 0 ∨ w = 1 ∨ w = 2) with e | e | e
  · exact of_0 h hst.len nst.len e u0 dr hR
  · exact of_1 h hst.len nst.len e u1 dr hR
  · exact of_2 h hst.len nst.len e u2 dr hR
theorem nmA : Nm "a" := ⟨by decide +kernel, by decide +kernel, by decide +kernel⟩
theorem nmB : Nm "b" := ⟨by decide +kernel, by decide +kernel, by decide +kernel⟩
theorem us_ba : Us [(("b" : Str), ("a" : Str))] := ⟨fun p hp => by
    simp only [List.mem_singleton] at hp
    subst hp
    exact ⟨nmB, nmA, by decide +kernel⟩, by simp, by simp, by simp⟩
theorem spots_ba : spots [(("b" : Str), ("a" : Str))] = [("a" : Str), ("b" : Str)] := by decide +kernel
theorem nrm_ba : nrm ltS [(("b" : Str), ("a" : Str))] = [(("a" : Str), ("b" : Str))] := by decide +kernel
theorem bls_rep (n : Nat) : blsOf (List.replicate n (P.bl true)) = some (List.replicate n true) := by
  induction n with
  | zero => rfl
  | succ n ih => simp only [List.replicate_succ, blsOf, ih, Option.map_some]
theorem all_rep (n : Nat) : (List.replicate n true).all id = true := by
  induction n with
  | zero => rfl
  | succ n ih => simp only [List.replicate_succ, List.all_cons, ih, id]; rfl
theorem right_v (h : An ans C) {j : Nat} (hp : Pot A j) : ∃ B, St j A B ∧ F__law_right C ans [.ref j] A = some (.val (.p (.bl true)) B) := by
  obtain ⟨fs, B1, n, h7, st1, lb⟩ := labels_v hp
  have e62 : (2 : Int) ^ 62 = 4611686018427387904 := by decide
  have r1 : -(2 ^ 62) ≤ (1 : Int) ∧ (1 : Int) < 2 ^ 62 ∧ -(2 ^ 62) ≤ (8 : Int) ∧ (8 : Int) < 2 ^ 62 := by rw [e62]; omega
  have it : (bRange2 (bCons (bC (.int 1)) (bCons (bC (.int 8)) bNil))) [some (.ref j), some (.p (.lst (nsP fs))), none] B1 = some (.val ((List.range ((8 : Int) - 1).toNat).map fun (k : Nat) => P.int (1 + (k : Int))) B1) := by
    clear e62 lb
    walk_at "ev"
  have hlen : ((List.range ((8 : Int) - 1).toNat).map fun (k : Nat) => P.int (1 + (k : Int))).length = 7 := by rfl
  obtain ⟨acc, B2, lc, ⟨st2, hacc⟩, hB2⟩ := bLc_ex (g := gNm 2) (tt := bYes) (te := bCall (F__law_size_right C ans) [] (bCons (bVar 0) (bCons (bVar 1) (bCons (bVar 2) bNil)))) (vs := [2]) it (by rw [hlen, PF.sizeLine_eq]; decide)
    (fun i acc B => St j B1 B ∧ acc = List.replicate i (P.bl true)) ⟨St.refl st1.pot, rfl⟩ (by
      rintro i x acc B hx hai ⟨hst, rfl⟩ hBl
      have hi := (List.getElem?_eq_some_iff.mp hx).1
      rw [hlen] at hi
      obtain rfl : x = P.int (1 + (i : Int)) := by
        rw [List.getElem?_map, List.getElem?_range (by simpa using hi)] at hx
        exact (Option.some.inj hx).symm
      obtain ⟨D1, st3, sr⟩ := size_right_v h (hst.pot.app [some (.lst (List.replicate i (P.bl true)))]) (ys := fs) (k := i + 1) (by omega) (by omega) (by omega) ⟨fun a ha => n.nm a (List.mem_of_mem_take ha), n.nd.sublist (List.take_sublist _ _), fun e => by
        have := congrArg List.length e
        rw [List.length_take, List.length_nil] at this
        omega, by rw [List.length_take]; omega⟩
      obtain ⟨B3, rfl, st4⟩ := st3.cut hst.pot.lt
      have e1 : (((i + 1 : Nat)) : Int) = 1 + (i : Int) := by omega
      rw [e1] at sr
      refine ⟨_, true, B, rfl, rfl, hBl, .inr ⟨rfl, .bl true, B3, ?_, by rw [st4.len]; exact hBl, hst.trans st4, by rw [List.replicate_succ']⟩⟩
      clear hx hst hBl st3 st4 e1 it hlen r1 e62 lb st1 n h7
      simp only [wipeD]
      walk_at "ev")
  rw [hlen] at hacc
  have st12 := st1.trans st2
  obtain ⟨B3, st3, ofr⟩ := of_right_v h st12.pot n h7
  have fo := fr_of (A := B3) h us_ba
  have li := law_is_v (A := B3) h us_ba.net (.refl _)
  rw [spots_ba, nrm_ba] at li
  rw [spots_ba] at fo
  have bl : blsOf acc = some (List.replicate 7 true) := by rw [hacc]; exact bls_rep 7
  have al := all_rep 7
  have nst := st12.trans st3
  refine ⟨B3, nst, ?_⟩
  have tk : B3.take A.length = B3 := List.take_of_length_le (by rw [nst.len]; exact Nat.le_refl _)
  generalize net C [("a" : Str), ("b" : Str)] [(("b" : Str), ("a" : Str))] = nt at *
  simp only [lsP, nsP, List.map_cons, List.map_nil, lkP] at fo li
  have lb' : F__law_labels [.ref j] A = some (.val (.p (.lst (nsP fs))) B1) := lb
  clear hacc hlen it e62 r1 n h7 st1 st2 st12 st3 nst hp hB2 lb
  generalize nsP fs = fP at *
  unfold F__law_right B__law_right
  walk_at "start"
  walk_at "st"
  refine wp_seq fun k hk => ?_
  simp only [sIf, bNot, bTest, bCB, bCons, M.bind, lc, bNil, M.ret, oAll, lstOf, bl, al, Bool.not_true, Bool.false_eq_true, if_false, sSkip, wp_nx]
  refine hk.out _ _ ?_
  clear hk k lc
  walk_at "ev"
end PF.k19

/-! text M22 -/
set_option Elab.async false
set_option linter.all false
set_option maxRecDepth 100000
namespace PF.k19
open PySem L2 PySem.Spec PyProof.Rows
local macro_rules | `(tactic| walk_at "ev") => `(tactic| simp only [wp_nx, wp_rt, sSeq, fin, sIf, sRet_v, sThen, sSet_v, sAsg_v, sExpr_v, sSkip, sBreak, gNm, gTp, gCs, gNl, bVar, bC, bOp, bTest, bAnd, bOr, bNot, bIf, bOfT, bAndV, bOrV, bNil, bCons, bCall, bCB, bTup, bLst, pures, M.bind, M.ret, M.need, M.stuck, List.map_cons, List.map_nil, List.replicate, List.length_cons, List.length_nil, List.length_map, List.cons_append, List.nil_append, List.append_nil, List.getElem?_cons_zero, List.getElem?_cons_succ, List.set_cons_zero, List.set_cons_succ, Option.map_some, Nat.sub_self, Nat.zero_add, Nat.reduceAdd, Nat.reduceSub, List.take_length, Bool.not_true, Bool.not_false, if_true, if_false, ite_true, ite_false, reduceIte, reduceCtorEq, Bool.false_eq_true, oIsi, tyD, tyP, tyA, clsP, clsPs, ansAny, tupOf, lstOf, seqOf, strOf, intOf, dicOf, oLen, bChain, o2b, PF.sizeLine_eq, Nat.reduceLeDiff, Int.reduceLE, Int.reduceLT, decide_true, decide_false, bAlt, mAlt, oAlt, bSeq, bSigns, pureSeq, oIn_v, oInSeq, oInS, oDin, pyD, pyOf, pyOfs, PF.dicKey, oSub_v, oIx, oDget, o2eq, and_self, true_and, and_true, Nx, Gt, Option.isSome_some, Option.isSome_none, isTupD, atI_0, atI_1, PyData.eqv, PyData.eqvAll, shaped_int, Int.reduceBEq, bNeg, Int.reduceNeg, o2sb, bEnum, bSl, bPart, bNoPart, Option.some.injEq, forall_const, lkP, snoc_get, snoc_set, List.take_left, oIsNot, oIs, isNon, bDnew, sDput_v, endPut, dKey_str, dKey_lk, bFld, insOf, bStar, oTuple, putAt, oSorted, colP, pures_snoc, snoc_get2, snoc_take, bCV, bFrz, frzD, sFld_v, endFld, putFP, List.mem_cons, List.not_mem_nil, or_false, true_or, or_true, lk_1, lk_2, lk_22, lk_3, lk_32, lk_33, n_12, n_13, n_23, Nat.reduceLT, bMk, bMkV, bMeth, oListZip, oSl_tup_from1, oSl_tup_to1, oPlus_v, oAdd, oCatL, oCatT, frozen, eqvAll_ns, eqvAll_ls, List.map_id, lkn_has, bCM, bSM, List.drop_succ_cons, List.drop_zero, List.take_succ_cons, List.take_zero, oList, oOwn, oOwnNe, bProp, valF, lAlt, oLenO, oAll, bDic, bGet2, rIsD, lkF_1, lkF_2, lkF_3, lkF_has, lkF_nodes, lkF_links, lkF_size, gTpL, atI_2, atI_3, gIxL, ixN_20, ixN_21, oDivmod, o2i, oInt1, take_set, Int.reduceAdd, Int.reduceMul, Int.reduceSub, Int.reduceMod, Int.reduceDiv, sTwo_v, bRev, bLstM, bBM, gExtend, gAppend, isLst, lkF_part, lkF_drawn, oOwnT, atI_m1, bZip, oMin2, oSl_lst_from1, bRange1, bRange2, oSl_ref, atI_4, atI_5, Nat.lt_irrefl, o2L, oAbs, *])
local macro_rules | `(tactic| walk_at "st") => `(tactic| (refine wp_seq fun k hk => ?_; walk_at "ev"; refine hk.out _ _ ?_; clear hk k))
local macro_rules | `(tactic| walk_at "start") => `(tactic| (refine defF_wp rfl ?_; simp only [startD, List.map_cons, List.map_nil, List.length_cons, List.length_nil, Nat.zero_add, Nat.reduceAdd, Nat.reduceSub, List.replicate, List.cons_append, List.nil_append, List.append_nil]))
/-! M22: the law's reading is True -/
variable {ans : Value → Value → Option Bool} {C : Addr} {A : AH}
theorem pot_of (c : Int) {k : Nat} (hk : k < 4) {v0 : Option D} {Q : D → AH → Prop} (hQ : ∀ a b : Int, 0 ≤ a → 0 ≤ b → b < 2147483587 → Q (.ref A.length) (A ++ [some (.lst [.int a, .int b])])) :
    Wp ((sRet (bLstM (bCons (bCB (o2L (fun i j => if j > i then j else i)) (bCons (bC (.int 0)) (bCons (bOp (o2i (fun _ _ => True) fun i j => i - j) (bVar 2) (bOp (o2i CPow fun i j => i ^ j.toNat) (bC (.int 10)) (bC (.int 18)))) bNil))) (bCons (bOp oPlus (bOp (o2i (fun _ j => 0 < j) fun i j => i % j) (bOp (o2i CMulW fun i j => i * j) (bCB oInt1 (bCons (bOp oPlus (bOp (o2i (fun _ j => 0 < j) fun i j => i % j) (bCB oInt1 (bCons (bVar 2) bNil)) (bC (.int 2147483549))) (bC (.int 7))) bNil)) (bOp (o2i CPow fun i j => i ^ j.toNat) (bOp oPlus (bOp (o2i CMulW fun i j => i * j) (bC (.int 2)) (bVar 1)) (bC (.int 3))) (bC (.int 3)))) (bC (.int 2147483477))) (bC (.int 1))) bNil))))
      [v0, some (.p (.int k)), some (.p (.int c))] A) (fun _ A' => Q (.p .non) (A'.take A.length)) (fun d A' => Vl (fin A.length d A') Q) := by
  have c1 : CPow 10 18 := ⟨by decide, by decide, by decide⟩
  have c2 : CMulW 2 (k : Int) := mulW (lt400 (by omega) (by omega)) (lt400 (by omega) (by omega))
  have c3 : CPow (2 * (k : Int) + 3) 3 := ⟨by decide, by decide, by
    have : (2 * (k : Int) + 3).natAbs ≤ 9 := by omega
    have e : (2 : Nat) ^ 64 = 18446744073709551616 := by decide
    rw [e]; omega⟩
  have m0 : 0 ≤ c % 2147483549 := Int.emod_nonneg _ (by decide)
  have m1 : c % 2147483549 < 2147483549 := Int.emod_lt_of_pos _ (by decide)
  generalize hz : c % 2147483549 = z at m0 m1
  generalize hy : (2 * (k : Int) + 3) ^ (Int.toNat 3) = y
  have y0 : 0 ≤ y ∧ y ≤ 729 := by
    rw [← hy]
    match k, hk with
    | 0, _ => exact ⟨by decide, by decide⟩
    | 1, _ => exact ⟨by decide, by decide⟩
    | 2, _ => exact ⟨by decide, by decide⟩
    | 3, _ => exact ⟨by decide, by decide⟩
  have c4 : CMulW (z + 7) y := mulW (lt400 (by omega) (by omega)) (lt400 y0.1 (by omega))
  have b0 : 0 ≤ (z + 7) * y % 2147483477 := Int.emod_nonneg _ (by decide)
  have b1 : (z + 7) * y % 2147483477 < 2147483477 := Int.emod_lt_of_pos _ (by decide)
  have hq := Hid.mk (hQ (if c - 10 ^ (Int.toNat 18) > 0 then c - 10 ^ (Int.toNat 18) else 0) ((z + 7) * y % 2147483477 + 1) (by split <;> omega) (by omega) (by omega))
  clear hQ b0 b1 y0 m0 m1 hk
  simp only [Vl]
  walk_at "ev"
  exact hq.out
theorem pot_v (h : An ans C) {ns : List Int} {k : Nat} (hk : k < 4) (hl : ns.length ≤ 1000) : Vl (F__law_pot [.p (.klst (ns.map P.int)), .p (.int k)] A) (fun d A' => d = .ref A.length ∧ ∃ a b : Int, 0 ≤ a ∧ 0 ≤ b ∧ b < 2147483587 ∧ A' = A ++ [some (.lst [.int a, .int b])]) := by
  unfold F__law_pot B__law_pot
  refine defF_vl rfl ?_
  simp only [startD, List.map_cons, List.map_nil, List.length_cons, List.length_nil, Nat.zero_add, Nat.reduceAdd, Nat.reduceSub, List.replicate, List.cons_append, List.nil_append, List.append_nil]
  have c0 : CMulW 29 (k : Int) := mulW (lt400 (by omega) (by omega)) (lt400 (by omega) (by omega))
  have fin_ := Hid.mk (fun (c : Int) (v0 : Option D) => pot_of (A := A) c hk (v0 := v0) (Q := fun d A' => d = .ref A.length ∧ ∃ a b : Int, 0 ≤ a ∧ 0 ≤ b ∧ b < 2147483587 ∧ A' = A ++ [some (.lst [.int a, .int b])]) (fun a b h1 h2 h3 => ⟨rfl, a, b, h1, h2, h3, rfl⟩))
  walk_at "st"
  by_cases hlt : (k : Int) < (ns.length : Int)
  · have b0 : decide ((k : Int) < (ns.length : Int)) = true := decide_eq_true hlt
    obtain ⟨s, hs⟩ : ∃ s, atI (ns.map P.int) (k : Int) = some (.int s) := by
      rw [atI_nat, List.getElem?_map, List.getElem?_eq_getElem (by omega)]
      exact ⟨_, rfl⟩
    clear hlt
    walk_at "st"
    exact fin_.out _ _
  · have b0 : decide ((k : Int) < (ns.length : Int)) = false := decide_eq_false hlt
    clear hlt
    walk_at "st"
    exact fin_.out _ _
theorem law_v (h : An ans C) {ns : List Int} (hl : ns.length ≤ 1000) : F_law C ans [.p (.klst (ns.map P.int))] A = some (.val (.p (.bl true)) A) := by
  obtain ⟨m, hm, hmv⟩ : ∃ m : Nat, m ≤ 4 ∧ (if (if (ns.length : Int) < 4 then (ns.length : Int) else 4) > 1 then (if (ns.length : Int) < 4 then (ns.length : Int) else 4) else 1) = (m : Int) := by
    by_cases h1 : (ns.length : Int) < 4
    · rw [if_pos h1]
      by_cases h2 : (ns.length : Int) > 1
      · exact ⟨ns.length, by omega, by rw [if_pos h2]⟩
      · exact ⟨1, by omega, by rw [if_neg h2]; rfl⟩
    · rw [if_neg h1]; exact ⟨4, by omega, by rfl⟩
  have e62 : (2 : Int) ^ 62 = 4611686018427387904 := by decide
  have r1 : -(2 ^ 62) ≤ (m : Int) ∧ (m : Int) < 2 ^ 62 := by rw [e62]; omega
  have it : (bRange1 (bCons (bCB (o2L (fun i j => if j > i then j else i)) (bCons (bC (.int 1)) (bCons (bCB (o2L (fun i j => if j < i then j else i)) (bCons (bC (.int 4)) (bCons (bCB oLen (bCons (bVar 0) bNil)) bNil))) bNil))) bNil)) [some (.p (.klst (ns.map P.int))), none] A =
      some (.val ((List.range (m : Int).toNat).map fun (k : Nat) => P.int (0 + (k : Int))) A) := by
    clear e62
    walk_at "ev"
  have hlen : ((List.range (m : Int).toNat).map fun (k : Nat) => P.int (0 + (k : Int))).length = m := by simp
  obtain ⟨C1, lp, acc, G, rfl, hacc⟩ := loopB_ex (g := gNm 1) (tt := bYes) (body := addL A.length (bCall (F__law_right C ans) [] (bCons (bCall F__law_pot [] (bCons (bVar 0) (bCons (bVar 1) bNil))) bNil))) (σ := wipeD [some (.p (.klst (ns.map P.int))), none] [1])
    (fun i D1 => ∃ acc G, D1 = A ++ some (.lst acc) :: G ∧ acc = List.replicate i (P.bl true)) (xs := (List.range (m : Int).toNat).map fun (k : Nat) => P.int (0 + (k : Int))) (A := A ++ [some (.lst [])]) ⟨[], [], rfl, rfl⟩ (by
      rintro i x D1 hx ⟨acc, G, rfl, rfl⟩
      have hi := (List.getElem?_eq_some_iff.mp hx).1
      rw [hlen] at hi
      obtain rfl : x = P.int (0 + (i : Int)) := by
        rw [List.getElem?_map, List.getElem?_range (by simpa using hi)] at hx
        exact (Option.some.inj hx).symm
      rw [Int.zero_add]
      obtain ⟨d, D2, e1, rfl, a, b, ha, hb, hb2, rfl⟩ := (pot_v (A := A ++ some (.lst (List.replicate i (P.bl true))) :: G) h (ns := ns) (k := i) (by omega) hl).ex
      have hp : Pot ((A ++ some (AO.lst (List.replicate i (P.bl true))) :: G) ++ [some (.lst [.int a, .int b])]) (A ++ some (AO.lst (List.replicate i (P.bl true))) :: G).length := ⟨a, b, snoc_get _ _, ha, hb, hb2⟩
      obtain ⟨D3, ⟨o, rfl, _⟩, e2⟩ := right_v h hp
      rw [snoc_set] at e2
      have g1 : ((A ++ some (AO.lst (List.replicate i (P.bl true))) :: G) ++ [o])[A.length]? = some (some (.lst (List.replicate i (P.bl true)))) := by simp
      have g2 : ∀ y, ((A ++ some (AO.lst (List.replicate i (P.bl true))) :: G) ++ [o]).set A.length y = A ++ y :: (G ++ [o]) := fun y => by
        rw [List.append_assoc, List.set_append_right _ _ (Nat.le_refl _), Nat.sub_self]; rfl
      have hle : (List.replicate i (P.bl true)).length < sizeLine := by rw [List.length_replicate, PF.sizeLine_eq]; omega
      refine ⟨_, _, _, rfl, .inr ⟨A ++ some (.lst (List.replicate (i + 1) (P.bl true))) :: (G ++ [o]), rfl, ?_, _, _, rfl, rfl⟩⟩
      unfold addL
      have te : (bCall (F__law_right C ans) [] (bCons (bCall F__law_pot [] (bCons (bVar 0) (bCons (bVar 1) bNil))) bNil)) ((wipeD [some (.p (.klst (ns.map P.int))), none] [1]).set 1 (some (.p (.int i)))) (A ++ some (.lst (List.replicate i (P.bl true))) :: G) = some (.val (.p (.bl true)) ((A ++ some (AO.lst (List.replicate i (P.bl true))) :: G) ++ [o])) := by
        generalize A ++ some (AO.lst (List.replicate i (P.bl true))) :: G = D0 at *
        clear hx g1 g2 hle it hlen r1 e62 hmv hp
        simp only [wipeD]
        walk_at "ev"
      rw [te]
      simp only [g1, g2, hle, if_true]
      rw [List.replicate_succ'])
  rw [hlen] at hacc
  have lc : (bLc (bRange1 (bCons (bCB (o2L (fun i j => if j > i then j else i)) (bCons (bC (.int 1)) (bCons (bCB (o2L (fun i j => if j < i then j else i)) (bCons (bC (.int 4)) (bCons (bCB oLen (bCons (bVar 0) bNil)) bNil))) bNil))) bNil)) (gNm 1) bYes (bCall (F__law_right C ans) [] (bCons (bCall F__law_pot [] (bCons (bVar 0) (bCons (bVar 1) bNil))) bNil)) [1]) [some (.p (.klst (ns.map P.int))), none] A =
      some (.val (.p (.lst acc)) A) := by
    unfold bLc M.bind
    rw [it]
    simp only [lp, endC]
    have g1 : (A ++ some (AO.lst acc) :: G)[A.length]? = some (some (.lst acc)) := by simp
    rw [g1]
    simp only [frozen]
    rw [List.take_left]
  have bl : blsOf acc = some (List.replicate m true) := by rw [hacc]; exact bls_rep m
  have al := all_rep m
  clear it hlen hacc lp r1 e62 hmv hm
  unfold F_law B_law
  walk_at "start"
  simp only [sRet_v, sThen, bCB, bCons, M.bind, lc, bNil, M.ret, oAll, lstOf, bl, al, wp_rt, fin, List.take_length]
end PF.k19

/-! text PF32 -/
set_option Elab.async false
set_option linter.all false
set_option maxRecDepth 100000
/-! PF32: what the end of a law needs: the facts of the defs, in one line each. -/
namespace PF
open PySem L2 PySem.Spec PyProof.Rows
section
variable {K : PySem.W.Frag} {x qual : Str} {st : Stmt} {f C : Addr} {oc : Value} {od an : Option Addr} {osl : Array (Option Value)} {kV doc pm cdv ct : Value}
theorem funD0 (l : K.lookup f = some ⟨oc, od, .func (PySem.W.fnOf x qual (defArgs st) (defBody st) (defScope st) .none kV doc pm an cdv ct), osl⟩)
    (c : PySem.W.codeIn K cdv qual = true) (k : PySem.W.keepIn K (.ref f) = true) : FunD K x qual (defArgs st) (defBody st) (defScope st) [] [] f (PySem.W.fnOf x qual (defArgs st) (defBody st) (defScope st) .none kV doc pm an cdv ct) :=
  ⟨⟨oc, od, .none, kV, doc, pm, an, cdv, ct, osl, rfl, l, c, .inl ⟨rfl, rfl⟩, .inl rfl⟩, k⟩
theorem funDd {T : Addr} {ocT : Value} {odT : Option Addr} {its : List Value} {nT : Nat} {slT : Array (Option Value)} {dvs : List V} (l : K.lookup f = some ⟨oc, od, .func (PySem.W.fnOf x qual (defArgs st) (defBody st) (defScope st) (.ref T) kV doc pm an cdv ct), osl⟩)
    (c : PySem.W.codeIn K cdv qual = true) (k : PySem.W.keepIn K (.ref f) = true) (hT : K.lookup T = some ⟨ocT, odT, .seq its.toArray nT, slT⟩) (hv : Vals dvs its) (hn : dvs ≠ []) :
    FunD K x qual (defArgs st) (defBody st) (defScope st) dvs [] f (PySem.W.fnOf x qual (defArgs st) (defBody st) (defScope st) (.ref T) kV doc pm an cdv ct) :=
  ⟨⟨oc, od, .ref T, kV, doc, pm, an, cdv, ct, osl, rfl, l, c, .inr ⟨hn, T, _, its, nT, rfl, hT, rfl, hv⟩, .inl rfl⟩, k⟩
theorem vals_nil {ds : List Value} (h : Vals [] ds) : ds = [] := by cases h; rfl
theorem plain1 {p : P} {v : V} {ds : List Value} (h : Vals [v] ds) (hp : ∀ L H, RelP K L H p v) : Plain K [p] [v] ds := by
  cases h with
  | cons r t => cases t; exact .cons hp r .nil
theorem plainC {p : P} {v : V} {ps : List P} {vs : List V} {ds : List Value} (h : Vals (v :: vs) ds) (hp : ∀ L H, RelP K L H p v) (k : ∀ us, Vals vs us → Plain K ps vs us) : Plain K (p :: ps) (v :: vs) ds := by
  cases h with
  | cons r t => exact .cons hp r (k _ t)
theorem plainN {ds : List Value} (h : Vals [] ds) : Plain K [] [] ds := by cases h; exact .nil
theorem dnT_sub {fo ro : Option Value} (ha : PySem.W.findIn K (.ref C) "__sub__" = some (some (.ref f))) (hi : PySem.W.isFn K (.ref f) = true) (hs : PySem.W.selfFirst K C = true) (hr : PySem.W.findIn K (.ref C) "__rsub__" = some none)
    (h1 : PySem.W.findIn K (.type "tuple") "__sub__" = some fo) (h2 : PySem.W.findIn K (.type "tuple") "__rsub__" = some ro) (hsu : PySem.W.subIn K (.type "tuple") (.ref C) = some false) : DnT K C .Sub f := by
  have e1 : PySem.dunder Operator.Sub.info.2 = ("__sub__" : Str) := by decide +kernel
  have e2 : dunderR Operator.Sub.info.2 = ("__rsub__" : Str) := by decide +kernel
  exact ⟨by rw [e1]; exact ⟨ha, hi⟩, hs, ⟨none, by rw [e2]; exact hr, .inl rfl⟩, ⟨fo, by rw [e1]; exact h1⟩, ⟨ro, by rw [e2]; exact h2⟩, hsu⟩
theorem dnT_add {fo ro : Option Value} (ha : PySem.W.findIn K (.ref C) "__add__" = some (some (.ref f))) (hi : PySem.W.isFn K (.ref f) = true) (hs : PySem.W.selfFirst K C = true) (hr : PySem.W.findIn K (.ref C) "__radd__" = some none)
    (h1 : PySem.W.findIn K (.type "tuple") "__add__" = some fo) (h2 : PySem.W.findIn K (.type "tuple") "__radd__" = some ro) (hsu : PySem.W.subIn K (.type "tuple") (.ref C) = some false) : DnT K C .Add f := by
  have e1 : PySem.dunder Operator.Add.info.2 = ("__add__" : Str) := by decide +kernel
  have e2 : dunderR Operator.Add.info.2 = ("__radd__" : Str) := by decide +kernel
  exact ⟨by rw [e1]; exact ⟨ha, hi⟩, hs, ⟨none, by rw [e2]; exact hr, .inl rfl⟩, ⟨fo, by rw [e1]; exact h1⟩, ⟨ro, by rw [e2]; exact h2⟩, hsu⟩
theorem cv_int {mc : Value} {m : Str} {i : Int} {t : Tok} (rd : ClX.CRead K C mc) (h : PySem.W.findCls K (.ref C) mc m = some (.val (.int i t))) : CV K C m (.int i) :=
  ⟨⟨mc, .int i, .int i t, rd, ⟨h, ⟨_, rfl⟩⟩, fun _ _ => by simp only [RelP]⟩⟩
/-- the law's own promise -/
def spLaw (K : PySem.W.Frag) : Sp := fun vs H Q _ => ∃ (a : Addr) (ns : List Int), vs = [.ref a] ∧ SqL K H a (ns.map V.int) ∧ ns.length ≤ 63 ∧ ∀ H', Q (.bl true) H'
theorem relPs_ints {L : Addr → Prop} {H : Hp} : ∀ ns : List Int, RelPs K L H (ns.map PF.P.int) (ns.map V.int)
  | [] => by simp only [List.map_nil, RelPs]
  | n :: r => by
    simp only [List.map_cons, RelPs]
    exact ⟨_, _, rfl, by simp only [RelP], relPs_ints r⟩
theorem spLaw_of {F : BF} (hF : ∀ ns : List Int, ns.length ≤ 1000 → F [.p (.klst (ns.map PF.P.int))] [] = some (.val (.p (.bl true)) [])) : ∀ vs H Q E, spLaw K vs H Q E → spF K 1 F vs H Q E := by
  rintro vs H Q E ⟨a, ns, rfl, hS, hl, k⟩
  refine ⟨rfl, [], [], [.p (.klst (ns.map PF.P.int))], ⟨rfl, fun i a o h => by simp at h, fun i j a o u h => by simp at h⟩, ⟨_, _, rfl, ?_, rfl⟩, ?_⟩
  · simp only [RelD, RelP]
    refine ⟨a, ns.map V.int, rfl, ?_, relPs_ints ns⟩
    refine hS.imp (fun h => ⟨?_, h⟩) fun h => h
    rintro ⟨i, o, h1, _⟩
    simp at h1
  · rw [hF ns (by omega)]
    intro ρ' H' b _ hb
    simp only [RelD, RelP] at hb
    rw [hb]
    exact k H'
end
end PF

/-! text E_k19 -/
set_option Elab.async false
set_option linter.all false
set_option maxRecDepth 100000
set_option maxHeartbeats 4000000
namespace PF.k19
open PySem L2 PySem.Spec PyProof.Rows
def ansT (C_Net : Addr) : Value → Value → Option Bool := fun t u => match t, u with
  | .type a, .type b => if a = "list" ∧ b = "list" then some true else if a = "tuple" ∧ b = "list" then some false else if a = "tuple" ∧ b = "tuple" then some true else if a = "str" ∧ b = "str" then some true else none
  | .ref a, .ref b => if a = C_Net ∧ b = C_Net then some true else none
  | .ref a, .type b => none
  | .type a, .ref b => none
  | _, _ => none
theorem isi_mk {K : PySem.W.Frag} {C_Net : Addr} (hans_list_list : PySem.W.kitOne K (.type "list") (.type "list") = some true) (hans_tuple_list : PySem.W.kitOne K (.type "tuple") (.type "list") = some false) (hans_tuple_tuple : PySem.W.kitOne K (.type "tuple") (.type "tuple") = some true) (hans_str_str : PySem.W.kitOne K (.type "str") (.type "str") = some true) (hans_Net_Net : PySem.W.kitOne K (.ref C_Net) (.ref C_Net) = some true) (it_Net : InsTy K C_Net) : IsiOk K (ansT C_Net) := by
  constructor
  · intro t u b h
    unfold ansT at h
    split at h
    · 
      split at h
      · rename_i e; obtain ⟨rfl, rfl⟩ := e; cases h; exact hans_list_list
      · 
        split at h
        · rename_i e; obtain ⟨rfl, rfl⟩ := e; cases h; exact hans_tuple_list
        · 
          split at h
          · rename_i e; obtain ⟨rfl, rfl⟩ := e; cases h; exact hans_tuple_tuple
          · 
            split at h
            · rename_i e; obtain ⟨rfl, rfl⟩ := e; cases h; exact hans_str_str
            · 
              cases h
    · 
      split at h
      · rename_i e; obtain ⟨rfl, rfl⟩ := e; cases h; exact hans_Net_Net
      · 
        cases h
    · cases h
    · cases h
    · cases h
  · intro C u b h
    unfold ansT at h
    split at h
    · rename_i e; cases e
    · 
      rename_i e
      cases e
      split at h
      · rename_i e; obtain ⟨rfl, rfl⟩ := e; exact it_Net
      · 
        cases h
    · cases h
    · rename_i e; cases e
    · cases h
theorem all_mk {l : PySem.W.OpenLaw} {w : World} {K : PySem.W.Frag} {h : Heap} {mg : Str → Option Value} {fa : Addr} (X : K.In h) (G : h.Ns mainGlobals mg) (hfa : mg "law" = some (.ref fa))
    {C_Net : Addr} {f__law_draw : Addr} {oc__law_draw kV__law_draw dc__law_draw pm__law_draw cd__law_draw ct__law_draw : Value} {od__law_draw an__law_draw : Option Addr} {sl__law_draw : Array (Option Value)} {f__law_label : Addr} {oc__law_label kV__law_label dc__law_label pm__law_label cd__law_label ct__law_label : Value} {od__law_label an__law_label : Option Addr} {sl__law_label : Array (Option Value)} {f__law_labels : Addr} {oc__law_labels kV__law_labels dc__law_labels pm__law_labels cd__law_labels ct__law_labels : Value} {od__law_labels an__law_labels : Option Addr} {sl__law_labels : Array (Option Value)} {f_is_list : Addr} {oc_is_list kV_is_list dc_is_list pm_is_list cd_is_list ct_is_list : Value} {od_is_list an_is_list : Option Addr} {sl_is_list : Array (Option Value)} {f_is_name : Addr} {oc_is_name kV_is_name dc_is_name pm_is_name cd_is_name ct_is_name : Value} {od_is_name an_is_name : Option Addr} {sl_is_name : Array (Option Value)} {f_want_names : Addr} {oc_want_names kV_want_names dc_want_names pm_want_names cd_want_names ct_want_names : Value} {od_want_names an_want_names : Option Addr} {sl_want_names : Array (Option Value)} {f_is_link : Addr} {oc_is_link kV_is_link dc_is_link pm_is_link cd_is_link ct_is_link : Value} {od_is_link an_is_link : Option Addr} {sl_is_link : Array (Option Value)} {f_in_sequence : Addr} {oc_in_sequence kV_in_sequence dc_in_sequence pm_in_sequence cd_in_sequence ct_in_sequence : Value} {od_in_sequence an_in_sequence : Option Addr} {sl_in_sequence : Array (Option Value)} {f_pairs_of : Addr} {oc_pairs_of kV_pairs_of dc_pairs_of pm_pairs_of cd_pairs_of ct_pairs_of : Value} {od_pairs_of an_pairs_of : Option Addr} {sl_pairs_of : Array (Option Value)} {T_pairs_of : Addr} {ocT_pairs_of : Value} {odT_pairs_of : Option Addr} {nT_pairs_of : Nat} {slT_pairs_of : Array (Option Value)} {f_neighbours_by_node : Addr} {oc_neighbours_by_node kV_neighbours_by_node dc_neighbours_by_node pm_neighbours_by_node cd_neighbours_by_node ct_neighbours_by_node : Value} {od_neighbours_by_node an_neighbours_by_node : Option Addr} {sl_neighbours_by_node : Array (Option Value)} {f_Net___init__ : Addr} {oc_Net___init__ kV_Net___init__ dc_Net___init__ pm_Net___init__ cd_Net___init__ ct_Net___init__ : Value} {od_Net___init__ an_Net___init__ : Option Addr} {sl_Net___init__ : Array (Option Value)} {T_Net___init__ : Addr} {e0_Net___init__ : Addr} {ocT_Net___init__ : Value} {odT_Net___init__ : Option Addr} {nT_Net___init__ : Nat} {slT_Net___init__ : Array (Option Value)} {f_Net_full : Addr} {oc_Net_full kV_Net_full dc_Net_full pm_Net_full cd_Net_full ct_Net_full : Value} {od_Net_full an_Net_full : Option Addr} {sl_Net_full : Array (Option Value)} {pa_Net_full : Addr} {rest_Net_full : List Value} {f_Net_path : Addr} {oc_Net_path kV_Net_path dc_Net_path pm_Net_path cd_Net_path ct_Net_path : Value} {od_Net_path an_Net_path : Option Addr} {sl_Net_path : Array (Option Value)} {pa_Net_path : Addr} {rest_Net_path : List Value} {f_Net_ring : Addr} {oc_Net_ring kV_Net_ring dc_Net_ring pm_Net_ring cd_Net_ring ct_Net_ring : Value} {od_Net_ring an_Net_ring : Option Addr} {sl_Net_ring : Array (Option Value)} {pa_Net_ring : Addr} {rest_Net_ring : List Value} {f__law_three : Addr} {oc__law_three kV__law_three dc__law_three pm__law_three cd__law_three ct__law_three : Value} {od__law_three an__law_three : Option Addr} {sl__law_three : Array (Option Value)} {f__law_link : Addr} {oc__law_link kV__law_link dc__law_link pm__law_link cd__law_link ct__law_link : Value} {od__law_link an__law_link : Option Addr} {sl__law_link : Array (Option Value)} {f_Net___len__ : Addr} {oc_Net___len__ kV_Net___len__ dc_Net___len__ pm_Net___len__ cd_Net___len__ ct_Net___len__ : Value} {od_Net___len__ an_Net___len__ : Option Addr} {sl_Net___len__ : Array (Option Value)} {f_Net_size : Addr} {oc_Net_size kV_Net_size dc_Net_size pm_Net_size cd_Net_size ct_Net_size : Value} {od_Net_size an_Net_size : Option Addr} {sl_Net_size : Array (Option Value)} {pa_Net_size : Addr} {rest_Net_size : List Value} {f_Net_links : Addr} {oc_Net_links kV_Net_links dc_Net_links pm_Net_links cd_Net_links ct_Net_links : Value} {od_Net_links an_Net_links : Option Addr} {sl_Net_links : Array (Option Value)} {f_Net_nodes : Addr} {oc_Net_nodes kV_Net_nodes dc_Net_nodes pm_Net_nodes cd_Net_nodes ct_Net_nodes : Value} {od_Net_nodes an_Net_nodes : Option Addr} {sl_Net_nodes : Array (Option Value)} {f_Net___eq__ : Addr} {oc_Net___eq__ kV_Net___eq__ dc_Net___eq__ pm_Net___eq__ cd_Net___eq__ ct_Net___eq__ : Value} {od_Net___eq__ an_Net___eq__ : Option Addr} {sl_Net___eq__ : Array (Option Value)} {f__law_is : Addr} {oc__law_is kV__law_is dc__law_is pm__law_is cd__law_is ct__law_is : Value} {od__law_is an__law_is : Option Addr} {sl__law_is : Array (Option Value)} {f_want_net : Addr} {oc_want_net kV_want_net dc_want_net pm_want_net cd_want_net ct_want_net : Value} {od_want_net an_want_net : Option Addr} {sl_want_net : Array (Option Value)} {f_Net_has_link : Addr} {oc_Net_has_link kV_Net_has_link dc_Net_has_link pm_Net_has_link cd_Net_has_link ct_Net_has_link : Value} {od_Net_has_link an_Net_has_link : Option Addr} {sl_Net_has_link : Array (Option Value)} {f_Net_is_part_of : Addr} {oc_Net_is_part_of kV_Net_is_part_of dc_Net_is_part_of pm_Net_is_part_of cd_Net_is_part_of ct_Net_is_part_of : Value} {od_Net_is_part_of an_Net_is_part_of : Option Addr} {sl_Net_is_part_of : Array (Option Value)} {f_want_link : Addr} {oc_want_link kV_want_link dc_want_link pm_want_link cd_want_link ct_want_link : Value} {od_want_link an_want_link : Option Addr} {sl_want_link : Array (Option Value)} {f_Net___sub__ : Addr} {oc_Net___sub__ kV_Net___sub__ dc_Net___sub__ pm_Net___sub__ cd_Net___sub__ ct_Net___sub__ : Value} {od_Net___sub__ an_Net___sub__ : Option Addr} {sl_Net___sub__ : Array (Option Value)} {f_Net_drawn_together : Addr} {oc_Net_drawn_together kV_Net_drawn_together dc_Net_drawn_together pm_Net_drawn_together cd_Net_drawn_together ct_Net_drawn_together : Value} {od_Net_drawn_together an_Net_drawn_together : Option Addr} {sl_Net_drawn_together : Array (Option Value)} {f__law_size_right : Addr} {oc__law_size_right kV__law_size_right dc__law_size_right pm__law_size_right cd__law_size_right ct__law_size_right : Value} {od__law_size_right an__law_size_right : Option Addr} {sl__law_size_right : Array (Option Value)} {f_Net_of : Addr} {oc_Net_of kV_Net_of dc_Net_of pm_Net_of cd_Net_of ct_Net_of : Value} {od_Net_of an_Net_of : Option Addr} {sl_Net_of : Array (Option Value)} {pa_Net_of : Addr} {rest_Net_of : List Value} {f__law_of_right : Addr} {oc__law_of_right kV__law_of_right dc__law_of_right pm__law_of_right cd__law_of_right ct__law_of_right : Value} {od__law_of_right an__law_of_right : Option Addr} {sl__law_of_right : Array (Option Value)} {f__law_right : Addr} {oc__law_right kV__law_right dc__law_right pm__law_right cd__law_right ct__law_right : Value} {od__law_right an__law_right : Option Addr} {sl__law_right : Array (Option Value)} {f__law_pot : Addr} {oc__law_pot kV__law_pot dc__law_pot pm__law_pot cd__law_pot ct__law_pot : Value} {od__law_pot an__law_pot : Option Addr} {sl__law_pot : Array (Option Value)} {f_law : Addr} {oc_law kV_law dc_law pm_law cd_law ct_law : Value} {od_law an_law : Option Addr} {sl_law : Array (Option Value)} {t_LETTERS : Tok} {t_LONGEST_NAME : Tok} {tv_Net_MOST_LINKS : Tok} {tv_Net_MOST_NODES : Tok} {fo_Net___sub__ ro_Net___sub__ : Option Value}
    (hC_Net : PySem.W.nsIn K mainGlobals "Net" = some (some (.ref C_Net)))
    (hpg_Net : PySem.W.plainGet K C_Net Str.empty = true)
    (hhd_Net : PySem.W.hasDictIn K C_Net = true)
    (hpo_Net : PySem.W.plainOver K C_Net = true)
    (hsa_Net : PySem.W.findIn K (.ref C_Net) "__setattr__" = some (some (.builtin "object.__setattr__")))
    (hmk_Net : PySem.W.makesIn K C_Net = true)
    (hkc_Net : PySem.W.keepIn K (.ref C_Net) = true)
    (hha_Net : PySem.W.findIn K (.ref C_Net) "__class__" = some (some (.builtin "object.__class__")))
    (hhn_Net : PySem.W.specialIn K (.builtin "object.__class__") "__get__" = some (some (.builtin "getset_descriptor.__get__")))
    (htk_Net : PySem.W.takesIn K (.builtin "object.__class__") = some true)
    (hhm_Net : PySem.W.mroIn K C_Net (.type "object") = some true)
    (hrd_Net : PySem.W.readsIn K C_Net (.type "type") = true)
    (hga_Net : PySem.W.specialIn K (.ref C_Net) "__getattribute__" = some (some (.builtin "type.__getattribute__")))
    (ha__law_draw : PySem.W.nsIn K mainGlobals "_law_draw" = some (some (.ref f__law_draw)))
    (hl__law_draw : K.lookup f__law_draw = some ⟨oc__law_draw, od__law_draw, .func (PySem.W.fnOf "_law_draw" "_law_draw" (defArgs s__law_draw) (defBody s__law_draw) (defScope s__law_draw) .none kV__law_draw dc__law_draw pm__law_draw an__law_draw cd__law_draw ct__law_draw), sl__law_draw⟩)
    (hc__law_draw : PySem.W.codeIn K cd__law_draw "_law_draw" = true)
    (hk__law_draw : PySem.W.keepIn K (.ref f__law_draw) = true)
    (ha__law_label : PySem.W.nsIn K mainGlobals "_law_label" = some (some (.ref f__law_label)))
    (hl__law_label : K.lookup f__law_label = some ⟨oc__law_label, od__law_label, .func (PySem.W.fnOf "_law_label" "_law_label" (defArgs s__law_label) (defBody s__law_label) (defScope s__law_label) .none kV__law_label dc__law_label pm__law_label an__law_label cd__law_label ct__law_label), sl__law_label⟩)
    (hc__law_label : PySem.W.codeIn K cd__law_label "_law_label" = true)
    (hk__law_label : PySem.W.keepIn K (.ref f__law_label) = true)
    (ha__law_labels : PySem.W.nsIn K mainGlobals "_law_labels" = some (some (.ref f__law_labels)))
    (hl__law_labels : K.lookup f__law_labels = some ⟨oc__law_labels, od__law_labels, .func (PySem.W.fnOf "_law_labels" "_law_labels" (defArgs s__law_labels) (defBody s__law_labels) (defScope s__law_labels) .none kV__law_labels dc__law_labels pm__law_labels an__law_labels cd__law_labels ct__law_labels), sl__law_labels⟩)
    (hc__law_labels : PySem.W.codeIn K cd__law_labels "_law_labels" = true)
    (hk__law_labels : PySem.W.keepIn K (.ref f__law_labels) = true)
    (ha_is_list : PySem.W.nsIn K mainGlobals "is_list" = some (some (.ref f_is_list)))
    (hl_is_list : K.lookup f_is_list = some ⟨oc_is_list, od_is_list, .func (PySem.W.fnOf "is_list" "is_list" (defArgs s_is_list) (defBody s_is_list) (defScope s_is_list) .none kV_is_list dc_is_list pm_is_list an_is_list cd_is_list ct_is_list), sl_is_list⟩)
    (hc_is_list : PySem.W.codeIn K cd_is_list "is_list" = true)
    (hk_is_list : PySem.W.keepIn K (.ref f_is_list) = true)
    (ha_is_name : PySem.W.nsIn K mainGlobals "is_name" = some (some (.ref f_is_name)))
    (hl_is_name : K.lookup f_is_name = some ⟨oc_is_name, od_is_name, .func (PySem.W.fnOf "is_name" "is_name" (defArgs s_is_name) (defBody s_is_name) (defScope s_is_name) .none kV_is_name dc_is_name pm_is_name an_is_name cd_is_name ct_is_name), sl_is_name⟩)
    (hc_is_name : PySem.W.codeIn K cd_is_name "is_name" = true)
    (hk_is_name : PySem.W.keepIn K (.ref f_is_name) = true)
    (ha_want_names : PySem.W.nsIn K mainGlobals "want_names" = some (some (.ref f_want_names)))
    (hl_want_names : K.lookup f_want_names = some ⟨oc_want_names, od_want_names, .func (PySem.W.fnOf "want_names" "want_names" (defArgs s_want_names) (defBody s_want_names) (defScope s_want_names) .none kV_want_names dc_want_names pm_want_names an_want_names cd_want_names ct_want_names), sl_want_names⟩)
    (hc_want_names : PySem.W.codeIn K cd_want_names "want_names" = true)
    (hk_want_names : PySem.W.keepIn K (.ref f_want_names) = true)
    (ha_is_link : PySem.W.nsIn K mainGlobals "is_link" = some (some (.ref f_is_link)))
    (hl_is_link : K.lookup f_is_link = some ⟨oc_is_link, od_is_link, .func (PySem.W.fnOf "is_link" "is_link" (defArgs s_is_link) (defBody s_is_link) (defScope s_is_link) .none kV_is_link dc_is_link pm_is_link an_is_link cd_is_link ct_is_link), sl_is_link⟩)
    (hc_is_link : PySem.W.codeIn K cd_is_link "is_link" = true)
    (hk_is_link : PySem.W.keepIn K (.ref f_is_link) = true)
    (ha_in_sequence : PySem.W.nsIn K mainGlobals "in_sequence" = some (some (.ref f_in_sequence)))
    (hl_in_sequence : K.lookup f_in_sequence = some ⟨oc_in_sequence, od_in_sequence, .func (PySem.W.fnOf "in_sequence" "in_sequence" (defArgs s_in_sequence) (defBody s_in_sequence) (defScope s_in_sequence) .none kV_in_sequence dc_in_sequence pm_in_sequence an_in_sequence cd_in_sequence ct_in_sequence), sl_in_sequence⟩)
    (hc_in_sequence : PySem.W.codeIn K cd_in_sequence "in_sequence" = true)
    (hk_in_sequence : PySem.W.keepIn K (.ref f_in_sequence) = true)
    (ha_pairs_of : PySem.W.nsIn K mainGlobals "pairs_of" = some (some (.ref f_pairs_of)))
    (hl_pairs_of : K.lookup f_pairs_of = some ⟨oc_pairs_of, od_pairs_of, .func (PySem.W.fnOf "pairs_of" "pairs_of" (defArgs s_pairs_of) (defBody s_pairs_of) (defScope s_pairs_of) (.ref T_pairs_of) kV_pairs_of dc_pairs_of pm_pairs_of an_pairs_of cd_pairs_of ct_pairs_of), sl_pairs_of⟩)
    (hc_pairs_of : PySem.W.codeIn K cd_pairs_of "pairs_of" = true)
    (hk_pairs_of : PySem.W.keepIn K (.ref f_pairs_of) = true)
    (hT_pairs_of : K.lookup T_pairs_of = some ⟨ocT_pairs_of, odT_pairs_of, .seq #[.none] nT_pairs_of, slT_pairs_of⟩)
    (ha_neighbours_by_node : PySem.W.nsIn K mainGlobals "neighbours_by_node" = some (some (.ref f_neighbours_by_node)))
    (hl_neighbours_by_node : K.lookup f_neighbours_by_node = some ⟨oc_neighbours_by_node, od_neighbours_by_node, .func (PySem.W.fnOf "neighbours_by_node" "neighbours_by_node" (defArgs s_neighbours_by_node) (defBody s_neighbours_by_node) (defScope s_neighbours_by_node) .none kV_neighbours_by_node dc_neighbours_by_node pm_neighbours_by_node an_neighbours_by_node cd_neighbours_by_node ct_neighbours_by_node), sl_neighbours_by_node⟩)
    (hc_neighbours_by_node : PySem.W.codeIn K cd_neighbours_by_node "neighbours_by_node" = true)
    (hk_neighbours_by_node : PySem.W.keepIn K (.ref f_neighbours_by_node) = true)
    (ha_Net___init__ : PySem.W.findIn K (.ref C_Net) "__init__" = some (some (.ref f_Net___init__)))
    (hi_Net___init__ : PySem.W.isFn K (.ref f_Net___init__) = true)
    (hl_Net___init__ : K.lookup f_Net___init__ = some ⟨oc_Net___init__, od_Net___init__, .func (PySem.W.fnOf "__init__" "Net.__init__" (defArgs s_Net___init__) (defBody s_Net___init__) (defScope s_Net___init__) (.ref T_Net___init__) kV_Net___init__ dc_Net___init__ pm_Net___init__ an_Net___init__ cd_Net___init__ ct_Net___init__), sl_Net___init__⟩)
    (hc_Net___init__ : PySem.W.codeIn K cd_Net___init__ "Net.__init__" = true)
    (hk_Net___init__ : PySem.W.keepIn K (.ref f_Net___init__) = true)
    (hT_Net___init__ : K.lookup T_Net___init__ = some ⟨ocT_Net___init__, odT_Net___init__, .seq #[.ref e0_Net___init__] nT_Net___init__, slT_Net___init__⟩)
    (ha_Net_full : PySem.W.findCls K (.ref C_Net) (.type "type") "full" = some (.get (.builtin "classmethod.__get__") (.ref pa_Net_full) .none (.ref C_Net)))
    (hr_Net_full : PySem.W.recIn K pa_Net_full "classmethod" = some (.ref f_Net_full :: rest_Net_full))
    (hi_Net_full : PySem.W.fnIn K f_Net_full = true)
    (hl_Net_full : K.lookup f_Net_full = some ⟨oc_Net_full, od_Net_full, .func (PySem.W.fnOf "full" "Net.full" (defArgs s_Net_full) (defBody s_Net_full) (defScope s_Net_full) .none kV_Net_full dc_Net_full pm_Net_full an_Net_full cd_Net_full ct_Net_full), sl_Net_full⟩)
    (hc_Net_full : PySem.W.codeIn K cd_Net_full "Net.full" = true)
    (hk_Net_full : PySem.W.keepIn K (.ref f_Net_full) = true)
    (ha_Net_path : PySem.W.findCls K (.ref C_Net) (.type "type") "path" = some (.get (.builtin "classmethod.__get__") (.ref pa_Net_path) .none (.ref C_Net)))
    (hr_Net_path : PySem.W.recIn K pa_Net_path "classmethod" = some (.ref f_Net_path :: rest_Net_path))
    (hi_Net_path : PySem.W.fnIn K f_Net_path = true)
    (hl_Net_path : K.lookup f_Net_path = some ⟨oc_Net_path, od_Net_path, .func (PySem.W.fnOf "path" "Net.path" (defArgs s_Net_path) (defBody s_Net_path) (defScope s_Net_path) .none kV_Net_path dc_Net_path pm_Net_path an_Net_path cd_Net_path ct_Net_path), sl_Net_path⟩)
    (hc_Net_path : PySem.W.codeIn K cd_Net_path "Net.path" = true)
    (hk_Net_path : PySem.W.keepIn K (.ref f_Net_path) = true)
    (ha_Net_ring : PySem.W.findCls K (.ref C_Net) (.type "type") "ring" = some (.get (.builtin "classmethod.__get__") (.ref pa_Net_ring) .none (.ref C_Net)))
    (hr_Net_ring : PySem.W.recIn K pa_Net_ring "classmethod" = some (.ref f_Net_ring :: rest_Net_ring))
    (hi_Net_ring : PySem.W.fnIn K f_Net_ring = true)
    (hl_Net_ring : K.lookup f_Net_ring = some ⟨oc_Net_ring, od_Net_ring, .func (PySem.W.fnOf "ring" "Net.ring" (defArgs s_Net_ring) (defBody s_Net_ring) (defScope s_Net_ring) .none kV_Net_ring dc_Net_ring pm_Net_ring an_Net_ring cd_Net_ring ct_Net_ring), sl_Net_ring⟩)
    (hc_Net_ring : PySem.W.codeIn K cd_Net_ring "Net.ring" = true)
    (hk_Net_ring : PySem.W.keepIn K (.ref f_Net_ring) = true)
    (ha__law_three : PySem.W.nsIn K mainGlobals "_law_three" = some (some (.ref f__law_three)))
    (hl__law_three : K.lookup f__law_three = some ⟨oc__law_three, od__law_three, .func (PySem.W.fnOf "_law_three" "_law_three" (defArgs s__law_three) (defBody s__law_three) (defScope s__law_three) .none kV__law_three dc__law_three pm__law_three an__law_three cd__law_three ct__law_three), sl__law_three⟩)
    (hc__law_three : PySem.W.codeIn K cd__law_three "_law_three" = true)
    (hk__law_three : PySem.W.keepIn K (.ref f__law_three) = true)
    (ha__law_link : PySem.W.nsIn K mainGlobals "_law_link" = some (some (.ref f__law_link)))
    (hl__law_link : K.lookup f__law_link = some ⟨oc__law_link, od__law_link, .func (PySem.W.fnOf "_law_link" "_law_link" (defArgs s__law_link) (defBody s__law_link) (defScope s__law_link) .none kV__law_link dc__law_link pm__law_link an__law_link cd__law_link ct__law_link), sl__law_link⟩)
    (hc__law_link : PySem.W.codeIn K cd__law_link "_law_link" = true)
    (hk__law_link : PySem.W.keepIn K (.ref f__law_link) = true)
    (ha_Net___len__ : PySem.W.findIn K (.ref C_Net) "__len__" = some (some (.ref f_Net___len__)))
    (hi_Net___len__ : PySem.W.isFn K (.ref f_Net___len__) = true)
    (hl_Net___len__ : K.lookup f_Net___len__ = some ⟨oc_Net___len__, od_Net___len__, .func (PySem.W.fnOf "__len__" "Net.__len__" (defArgs s_Net___len__) (defBody s_Net___len__) (defScope s_Net___len__) .none kV_Net___len__ dc_Net___len__ pm_Net___len__ an_Net___len__ cd_Net___len__ ct_Net___len__), sl_Net___len__⟩)
    (hc_Net___len__ : PySem.W.codeIn K cd_Net___len__ "Net.__len__" = true)
    (hk_Net___len__ : PySem.W.keepIn K (.ref f_Net___len__) = true)
    (ha_Net_size : PySem.W.findIn K (.ref C_Net) "size" = some (some (.ref pa_Net_size)))
    (hg_Net_size : PySem.W.specialIn K (.ref pa_Net_size) "__get__" = some (some (.builtin "property.__get__")))
    (ht_Net_size : PySem.W.takesIn K (.ref pa_Net_size) = some true)
    (hr_Net_size : PySem.W.recIn K pa_Net_size "property" = some (.ref f_Net_size :: rest_Net_size))
    (hl_Net_size : K.lookup f_Net_size = some ⟨oc_Net_size, od_Net_size, .func (PySem.W.fnOf "size" "Net.size" (defArgs s_Net_size) (defBody s_Net_size) (defScope s_Net_size) .none kV_Net_size dc_Net_size pm_Net_size an_Net_size cd_Net_size ct_Net_size), sl_Net_size⟩)
    (hc_Net_size : PySem.W.codeIn K cd_Net_size "Net.size" = true)
    (hk_Net_size : PySem.W.keepIn K (.ref f_Net_size) = true)
    (ha_Net_links : PySem.W.findIn K (.ref C_Net) "links" = some (some (.ref f_Net_links)))
    (hi_Net_links : PySem.W.isFn K (.ref f_Net_links) = true)
    (hl_Net_links : K.lookup f_Net_links = some ⟨oc_Net_links, od_Net_links, .func (PySem.W.fnOf "links" "Net.links" (defArgs s_Net_links) (defBody s_Net_links) (defScope s_Net_links) .none kV_Net_links dc_Net_links pm_Net_links an_Net_links cd_Net_links ct_Net_links), sl_Net_links⟩)
    (hc_Net_links : PySem.W.codeIn K cd_Net_links "Net.links" = true)
    (hk_Net_links : PySem.W.keepIn K (.ref f_Net_links) = true)
    (ha_Net_nodes : PySem.W.findIn K (.ref C_Net) "nodes" = some (some (.ref f_Net_nodes)))
    (hi_Net_nodes : PySem.W.isFn K (.ref f_Net_nodes) = true)
    (hl_Net_nodes : K.lookup f_Net_nodes = some ⟨oc_Net_nodes, od_Net_nodes, .func (PySem.W.fnOf "nodes" "Net.nodes" (defArgs s_Net_nodes) (defBody s_Net_nodes) (defScope s_Net_nodes) .none kV_Net_nodes dc_Net_nodes pm_Net_nodes an_Net_nodes cd_Net_nodes ct_Net_nodes), sl_Net_nodes⟩)
    (hc_Net_nodes : PySem.W.codeIn K cd_Net_nodes "Net.nodes" = true)
    (hk_Net_nodes : PySem.W.keepIn K (.ref f_Net_nodes) = true)
    (ha_Net___eq__ : PySem.W.findIn K (.ref C_Net) "__eq__" = some (some (.ref f_Net___eq__)))
    (hi_Net___eq__ : PySem.W.isFn K (.ref f_Net___eq__) = true)
    (hl_Net___eq__ : K.lookup f_Net___eq__ = some ⟨oc_Net___eq__, od_Net___eq__, .func (PySem.W.fnOf "__eq__" "Net.__eq__" (defArgs s_Net___eq__) (defBody s_Net___eq__) (defScope s_Net___eq__) .none kV_Net___eq__ dc_Net___eq__ pm_Net___eq__ an_Net___eq__ cd_Net___eq__ ct_Net___eq__), sl_Net___eq__⟩)
    (hc_Net___eq__ : PySem.W.codeIn K cd_Net___eq__ "Net.__eq__" = true)
    (hk_Net___eq__ : PySem.W.keepIn K (.ref f_Net___eq__) = true)
    (ha__law_is : PySem.W.nsIn K mainGlobals "_law_is" = some (some (.ref f__law_is)))
    (hl__law_is : K.lookup f__law_is = some ⟨oc__law_is, od__law_is, .func (PySem.W.fnOf "_law_is" "_law_is" (defArgs s__law_is) (defBody s__law_is) (defScope s__law_is) .none kV__law_is dc__law_is pm__law_is an__law_is cd__law_is ct__law_is), sl__law_is⟩)
    (hc__law_is : PySem.W.codeIn K cd__law_is "_law_is" = true)
    (hk__law_is : PySem.W.keepIn K (.ref f__law_is) = true)
    (ha_want_net : PySem.W.nsIn K mainGlobals "want_net" = some (some (.ref f_want_net)))
    (hl_want_net : K.lookup f_want_net = some ⟨oc_want_net, od_want_net, .func (PySem.W.fnOf "want_net" "want_net" (defArgs s_want_net) (defBody s_want_net) (defScope s_want_net) .none kV_want_net dc_want_net pm_want_net an_want_net cd_want_net ct_want_net), sl_want_net⟩)
    (hc_want_net : PySem.W.codeIn K cd_want_net "want_net" = true)
    (hk_want_net : PySem.W.keepIn K (.ref f_want_net) = true)
    (ha_Net_has_link : PySem.W.findIn K (.ref C_Net) "has_link" = some (some (.ref f_Net_has_link)))
    (hi_Net_has_link : PySem.W.isFn K (.ref f_Net_has_link) = true)
    (hl_Net_has_link : K.lookup f_Net_has_link = some ⟨oc_Net_has_link, od_Net_has_link, .func (PySem.W.fnOf "has_link" "Net.has_link" (defArgs s_Net_has_link) (defBody s_Net_has_link) (defScope s_Net_has_link) .none kV_Net_has_link dc_Net_has_link pm_Net_has_link an_Net_has_link cd_Net_has_link ct_Net_has_link), sl_Net_has_link⟩)
    (hc_Net_has_link : PySem.W.codeIn K cd_Net_has_link "Net.has_link" = true)
    (hk_Net_has_link : PySem.W.keepIn K (.ref f_Net_has_link) = true)
    (ha_Net_is_part_of : PySem.W.findIn K (.ref C_Net) "is_part_of" = some (some (.ref f_Net_is_part_of)))
    (hi_Net_is_part_of : PySem.W.isFn K (.ref f_Net_is_part_of) = true)
    (hl_Net_is_part_of : K.lookup f_Net_is_part_of = some ⟨oc_Net_is_part_of, od_Net_is_part_of, .func (PySem.W.fnOf "is_part_of" "Net.is_part_of" (defArgs s_Net_is_part_of) (defBody s_Net_is_part_of) (defScope s_Net_is_part_of) .none kV_Net_is_part_of dc_Net_is_part_of pm_Net_is_part_of an_Net_is_part_of cd_Net_is_part_of ct_Net_is_part_of), sl_Net_is_part_of⟩)
    (hc_Net_is_part_of : PySem.W.codeIn K cd_Net_is_part_of "Net.is_part_of" = true)
    (hk_Net_is_part_of : PySem.W.keepIn K (.ref f_Net_is_part_of) = true)
    (ha_want_link : PySem.W.nsIn K mainGlobals "want_link" = some (some (.ref f_want_link)))
    (hl_want_link : K.lookup f_want_link = some ⟨oc_want_link, od_want_link, .func (PySem.W.fnOf "want_link" "want_link" (defArgs s_want_link) (defBody s_want_link) (defScope s_want_link) .none kV_want_link dc_want_link pm_want_link an_want_link cd_want_link ct_want_link), sl_want_link⟩)
    (hc_want_link : PySem.W.codeIn K cd_want_link "want_link" = true)
    (hk_want_link : PySem.W.keepIn K (.ref f_want_link) = true)
    (ha_Net___sub__ : PySem.W.findIn K (.ref C_Net) "__sub__" = some (some (.ref f_Net___sub__)))
    (hi_Net___sub__ : PySem.W.isFn K (.ref f_Net___sub__) = true)
    (hl_Net___sub__ : K.lookup f_Net___sub__ = some ⟨oc_Net___sub__, od_Net___sub__, .func (PySem.W.fnOf "__sub__" "Net.__sub__" (defArgs s_Net___sub__) (defBody s_Net___sub__) (defScope s_Net___sub__) .none kV_Net___sub__ dc_Net___sub__ pm_Net___sub__ an_Net___sub__ cd_Net___sub__ ct_Net___sub__), sl_Net___sub__⟩)
    (hc_Net___sub__ : PySem.W.codeIn K cd_Net___sub__ "Net.__sub__" = true)
    (hk_Net___sub__ : PySem.W.keepIn K (.ref f_Net___sub__) = true)
    (ha_Net_drawn_together : PySem.W.findIn K (.ref C_Net) "drawn_together" = some (some (.ref f_Net_drawn_together)))
    (hi_Net_drawn_together : PySem.W.isFn K (.ref f_Net_drawn_together) = true)
    (hl_Net_drawn_together : K.lookup f_Net_drawn_together = some ⟨oc_Net_drawn_together, od_Net_drawn_together, .func (PySem.W.fnOf "drawn_together" "Net.drawn_together" (defArgs s_Net_drawn_together) (defBody s_Net_drawn_together) (defScope s_Net_drawn_together) .none kV_Net_drawn_together dc_Net_drawn_together pm_Net_drawn_together an_Net_drawn_together cd_Net_drawn_together ct_Net_drawn_together), sl_Net_drawn_together⟩)
    (hc_Net_drawn_together : PySem.W.codeIn K cd_Net_drawn_together "Net.drawn_together" = true)
    (hk_Net_drawn_together : PySem.W.keepIn K (.ref f_Net_drawn_together) = true)
    (ha__law_size_right : PySem.W.nsIn K mainGlobals "_law_size_right" = some (some (.ref f__law_size_right)))
    (hl__law_size_right : K.lookup f__law_size_right = some ⟨oc__law_size_right, od__law_size_right, .func (PySem.W.fnOf "_law_size_right" "_law_size_right" (defArgs s__law_size_right) (defBody s__law_size_right) (defScope s__law_size_right) .none kV__law_size_right dc__law_size_right pm__law_size_right an__law_size_right cd__law_size_right ct__law_size_right), sl__law_size_right⟩)
    (hc__law_size_right : PySem.W.codeIn K cd__law_size_right "_law_size_right" = true)
    (hk__law_size_right : PySem.W.keepIn K (.ref f__law_size_right) = true)
    (ha_Net_of : PySem.W.findCls K (.ref C_Net) (.type "type") "of" = some (.get (.builtin "staticmethod.__get__") (.ref pa_Net_of) .none (.ref C_Net)))
    (hr_Net_of : PySem.W.recIn K pa_Net_of "staticmethod" = some (.ref f_Net_of :: rest_Net_of))
    (hl_Net_of : K.lookup f_Net_of = some ⟨oc_Net_of, od_Net_of, .func (PySem.W.fnOf "of" "Net.of" (defArgs s_Net_of) (defBody s_Net_of) (defScope s_Net_of) .none kV_Net_of dc_Net_of pm_Net_of an_Net_of cd_Net_of ct_Net_of), sl_Net_of⟩)
    (hc_Net_of : PySem.W.codeIn K cd_Net_of "Net.of" = true)
    (hk_Net_of : PySem.W.keepIn K (.ref f_Net_of) = true)
    (ha__law_of_right : PySem.W.nsIn K mainGlobals "_law_of_right" = some (some (.ref f__law_of_right)))
    (hl__law_of_right : K.lookup f__law_of_right = some ⟨oc__law_of_right, od__law_of_right, .func (PySem.W.fnOf "_law_of_right" "_law_of_right" (defArgs s__law_of_right) (defBody s__law_of_right) (defScope s__law_of_right) .none kV__law_of_right dc__law_of_right pm__law_of_right an__law_of_right cd__law_of_right ct__law_of_right), sl__law_of_right⟩)
    (hc__law_of_right : PySem.W.codeIn K cd__law_of_right "_law_of_right" = true)
    (hk__law_of_right : PySem.W.keepIn K (.ref f__law_of_right) = true)
    (ha__law_right : PySem.W.nsIn K mainGlobals "_law_right" = some (some (.ref f__law_right)))
    (hl__law_right : K.lookup f__law_right = some ⟨oc__law_right, od__law_right, .func (PySem.W.fnOf "_law_right" "_law_right" (defArgs s__law_right) (defBody s__law_right) (defScope s__law_right) .none kV__law_right dc__law_right pm__law_right an__law_right cd__law_right ct__law_right), sl__law_right⟩)
    (hc__law_right : PySem.W.codeIn K cd__law_right "_law_right" = true)
    (hk__law_right : PySem.W.keepIn K (.ref f__law_right) = true)
    (ha__law_pot : PySem.W.nsIn K mainGlobals "_law_pot" = some (some (.ref f__law_pot)))
    (hl__law_pot : K.lookup f__law_pot = some ⟨oc__law_pot, od__law_pot, .func (PySem.W.fnOf "_law_pot" "_law_pot" (defArgs s__law_pot) (defBody s__law_pot) (defScope s__law_pot) .none kV__law_pot dc__law_pot pm__law_pot an__law_pot cd__law_pot ct__law_pot), sl__law_pot⟩)
    (hc__law_pot : PySem.W.codeIn K cd__law_pot "_law_pot" = true)
    (hk__law_pot : PySem.W.keepIn K (.ref f__law_pot) = true)
    (ha_law : PySem.W.nsIn K mainGlobals "law" = some (some (.ref f_law)))
    (hl_law : K.lookup f_law = some ⟨oc_law, od_law, .func (PySem.W.fnOf "law" "law" (defArgs s_law) (defBody s_law) (defScope s_law) .none kV_law dc_law pm_law an_law cd_law ct_law), sl_law⟩)
    (hc_law : PySem.W.codeIn K cd_law "law" = true)
    (hk_law : PySem.W.keepIn K (.ref f_law) = true)
    (hz_abs : PySem.W.nsIn K mainGlobals "abs" = some none)
    (hz_all : PySem.W.nsIn K mainGlobals "all" = some none)
    (hz_dict : PySem.W.nsIn K mainGlobals "dict" = some none)
    (hz_divmod : PySem.W.nsIn K mainGlobals "divmod" = some none)
    (hz_enumerate : PySem.W.nsIn K mainGlobals "enumerate" = some none)
    (hz_int : PySem.W.nsIn K mainGlobals "int" = some none)
    (hz_isinstance : PySem.W.nsIn K mainGlobals "isinstance" = some none)
    (hz_len : PySem.W.nsIn K mainGlobals "len" = some none)
    (hz_list : PySem.W.nsIn K mainGlobals "list" = some none)
    (hz_max : PySem.W.nsIn K mainGlobals "max" = some none)
    (hz_min : PySem.W.nsIn K mainGlobals "min" = some none)
    (hz_range : PySem.W.nsIn K mainGlobals "range" = some none)
    (hz_repr : PySem.W.nsIn K mainGlobals "repr" = some none)
    (hz_set : PySem.W.nsIn K mainGlobals "set" = some none)
    (hz_sorted : PySem.W.nsIn K mainGlobals "sorted" = some none)
    (hz_str : PySem.W.nsIn K mainGlobals "str" = some none)
    (hz_tuple : PySem.W.nsIn K mainGlobals "tuple" = some none)
    (hz_zip : PySem.W.nsIn K mainGlobals "zip" = some none)
    (hq_LETTERS : PySem.W.nsIn K mainGlobals "LETTERS" = some (some (.str "abcdefghijklmnopqrstuvwxyz" t_LETTERS)))
    (hq_LONGEST_NAME : PySem.W.nsIn K mainGlobals "LONGEST_NAME" = some (some (.int 8 t_LONGEST_NAME)))
    (hv_Net_MOST_LINKS : PySem.W.findCls K (.ref C_Net) (.type "type") "MOST_LINKS" = some (.val (.int 120 tv_Net_MOST_LINKS)))
    (hv_Net_MOST_NODES : PySem.W.findCls K (.ref C_Net) (.type "type") "MOST_NODES" = some (.val (.int 60 tv_Net_MOST_NODES)))
    (hs_Net___sub__ : PySem.W.selfFirst K C_Net = true)
    (hrr_Net___sub__ : PySem.W.findIn K (.ref C_Net) "__rsub__" = some none)
    (h1_Net___sub__ : PySem.W.findIn K (.type "tuple") "__sub__" = some fo_Net___sub__)
    (h2_Net___sub__ : PySem.W.findIn K (.type "tuple") "__rsub__" = some ro_Net___sub__)
    (hsu_Net___sub__ : PySem.W.subIn K (.type "tuple") (.ref C_Net) = some false)
    (hf_Net_own_links : PySem.W.findIn K (.ref C_Net) "own_links" = some none)
    (hf_Net_own_near : PySem.W.findIn K (.ref C_Net) "own_near" = some none)
    (hf_Net_own_nodes : PySem.W.findIn K (.ref C_Net) "own_nodes" = some none)
    (hne_Net : PySem.W.findIn K (.ref C_Net) "__ne__" = some (some (.builtin "object.__ne__")))
    (hans_list_list : PySem.W.kitOne K (.type "list") (.type "list") = some true)
    (hans_tuple_list : PySem.W.kitOne K (.type "tuple") (.type "list") = some false)
    (hans_tuple_tuple : PySem.W.kitOne K (.type "tuple") (.type "tuple") = some true)
    (hans_str_str : PySem.W.kitOne K (.type "str") (.type "str") = some true)
    (hans_Net_Net : PySem.W.kitOne K (.ref C_Net) (.ref C_Net) = some true)
    : ∃ fd : FuncData, (∀ (s : Shared) (v : Value), BindsTo s fd ⟨[v], []⟩ [("_law_script", v)]) ∧ ∀ base : Heap, K.In base → base.Ns mainGlobals mg → PF.FnOk l.prog w K mg base (L2.CX l.prog w) 10 fa fd ["_law_script"] (PF.spLaw K) := by
  have e := hfa.symm.trans (PySem.W.mg_of X G ha_law)
  cases e
  have c_Net : Cls K C_Net := ⟨hpg_Net, hhd_Net, hpo_Net, hsa_Net⟩
  have it_Net : InsTy K C_Net := ⟨c_Net, hha_Net, hhn_Net, htk_Net, hhm_Net⟩
  have rd_Net : ClX.CRead K C_Net (.type "type") := ⟨hrd_Net, hga_Net⟩
  have F__law_draw := PF.funD0 (st := s__law_draw) hl__law_draw hc__law_draw hk__law_draw
  have b__law_draw := F__law_draw.bindsN (ps := ["_law_pot_here", "_law_size"]) fun _ _ _ _ _ _ us hl => match us, hl with | [_, _], _ => rfl
  have F__law_label := PF.funD0 (st := s__law_label) hl__law_label hc__law_label hk__law_label
  have b__law_label := F__law_label.bindsN (ps := ["_law_pot_here"]) fun _ _ _ _ _ _ us hl => match us, hl with | [_], _ => rfl
  have F__law_labels := PF.funD0 (st := s__law_labels) hl__law_labels hc__law_labels hk__law_labels
  have b__law_labels := F__law_labels.bindsN (ps := ["_law_pot_here"]) fun _ _ _ _ _ _ us hl => match us, hl with | [_], _ => rfl
  have F_is_list := PF.funD0 (st := s_is_list) hl_is_list hc_is_list hk_is_list
  have b_is_list := F_is_list.bindsN (ps := ["value"]) fun _ _ _ _ _ _ us hl => match us, hl with | [_], _ => rfl
  have F_is_name := PF.funD0 (st := s_is_name) hl_is_name hc_is_name hk_is_name
  have b_is_name := F_is_name.bindsN (ps := ["value"]) fun _ _ _ _ _ _ us hl => match us, hl with | [_], _ => rfl
  have F_want_names := PF.funD0 (st := s_want_names) hl_want_names hc_want_names hk_want_names
  have b_want_names := F_want_names.bindsN (ps := ["nodes"]) fun _ _ _ _ _ _ us hl => match us, hl with | [_], _ => rfl
  have F_is_link := PF.funD0 (st := s_is_link) hl_is_link hc_is_link hk_is_link
  have b_is_link := F_is_link.bindsN (ps := ["value"]) fun _ _ _ _ _ _ us hl => match us, hl with | [_], _ => rfl
  have F_in_sequence := PF.funD0 (st := s_in_sequence) hl_in_sequence hc_in_sequence hk_in_sequence
  have b_in_sequence := F_in_sequence.bindsN (ps := ["link"]) fun _ _ _ _ _ _ us hl => match us, hl with | [_], _ => rfl
  have v_pairs_of : Vals [.non] [.none] := .cons (rfl) (.nil)
  have F_pairs_of := PF.funDd (st := s_pairs_of) hl_pairs_of hc_pairs_of hk_pairs_of hT_pairs_of v_pairs_of (by simp)
  obtain ⟨e0_pairs_of, w0_pairs_of, b_pairs_of⟩ := F_pairs_of.binds1 (ps := ["links", "nodes"]) 2 1 (by simp) rfl fun T kV doc pm an cdv ct us its hu hi => match us, its, hu, hi with | [_, _], [_], _, _ => ⟨_, rfl, rfl⟩
  cases PF.vals_nil w0_pairs_of
  obtain ⟨d1_pairs_of, w1_pairs_of, bd1_pairs_of⟩ := F_pairs_of.binds1 (ps := ["links", "nodes"]) 1 0 (by simp) rfl fun T kV doc pm an cdv ct us its hu hi => match us, its, hu, hi with | [_], [_], _, _ => ⟨_, rfl, rfl⟩
  have pd1_pairs_of := (fun us hu => PF.plainC hu (fun _ _ => by simp only [RelP]) (fun us hu => PF.plainN hu) : ∀ us, Vals [.non] us → Plain K [.non] [.non] us) _ w1_pairs_of
  have F_neighbours_by_node := PF.funD0 (st := s_neighbours_by_node) hl_neighbours_by_node hc_neighbours_by_node hk_neighbours_by_node
  have b_neighbours_by_node := F_neighbours_by_node.bindsN (ps := ["nodes", "pairs"]) fun _ _ _ _ _ _ us hl => match us, hl with | [_, _], _ => rfl
  have v_Net___init__ : Vals [.ref e0_Net___init__] [.ref e0_Net___init__] := .cons (rfl) (.nil)
  have F_Net___init__ := PF.funDd (st := s_Net___init__) hl_Net___init__ hc_Net___init__ hk_Net___init__ hT_Net___init__ v_Net___init__ (by simp)
  obtain ⟨e0_Net___init__, w0_Net___init__, b_Net___init__⟩ := F_Net___init__.binds1 (ps := ["self", "nodes", "links"]) 3 1 (by simp) rfl fun T kV doc pm an cdv ct us its hu hi => match us, its, hu, hi with | [_, _, _], [_], _, _ => ⟨_, rfl, rfl⟩
  cases PF.vals_nil w0_Net___init__
  have F_Net_full := PF.funD0 (st := s_Net_full) hl_Net_full hc_Net_full hk_Net_full
  have F_Net_path := PF.funD0 (st := s_Net_path) hl_Net_path hc_Net_path hk_Net_path
  have F_Net_ring := PF.funD0 (st := s_Net_ring) hl_Net_ring hc_Net_ring hk_Net_ring
  have F__law_three := PF.funD0 (st := s__law_three) hl__law_three hc__law_three hk__law_three
  have b__law_three := F__law_three.bindsN (ps := ["_law_some", "_law_size"]) fun _ _ _ _ _ _ us hl => match us, hl with | [_, _], _ => rfl
  have F__law_link := PF.funD0 (st := s__law_link) hl__law_link hc__law_link hk__law_link
  have b__law_link := F__law_link.bindsN (ps := ["_law_this", "_law_mate"]) fun _ _ _ _ _ _ us hl => match us, hl with | [_, _], _ => rfl
  have F_Net___len__ := PF.funD0 (st := s_Net___len__) hl_Net___len__ hc_Net___len__ hk_Net___len__
  have b_Net___len__ := F_Net___len__.bindsN (ps := ["self"]) fun _ _ _ _ _ _ us hl => match us, hl with | [_], _ => rfl
  have F_Net_size := PF.funD0 (st := s_Net_size) hl_Net_size hc_Net_size hk_Net_size
  have b_Net_size := F_Net_size.bindsN (ps := ["self"]) fun _ _ _ _ _ _ us hl => match us, hl with | [_], _ => rfl
  have F_Net_links := PF.funD0 (st := s_Net_links) hl_Net_links hc_Net_links hk_Net_links
  have b_Net_links := F_Net_links.bindsN (ps := ["self"]) fun _ _ _ _ _ _ us hl => match us, hl with | [_], _ => rfl
  have F_Net_nodes := PF.funD0 (st := s_Net_nodes) hl_Net_nodes hc_Net_nodes hk_Net_nodes
  have b_Net_nodes := F_Net_nodes.bindsN (ps := ["self"]) fun _ _ _ _ _ _ us hl => match us, hl with | [_], _ => rfl
  have F_Net___eq__ := PF.funD0 (st := s_Net___eq__) hl_Net___eq__ hc_Net___eq__ hk_Net___eq__
  have b_Net___eq__ := F_Net___eq__.bindsN (ps := ["self", "other"]) fun _ _ _ _ _ _ us hl => match us, hl with | [_, _], _ => rfl
  have F__law_is := PF.funD0 (st := s__law_is) hl__law_is hc__law_is hk__law_is
  have b__law_is := F__law_is.bindsN (ps := ["_law_made", "_law_spots", "_law_pairs"]) fun _ _ _ _ _ _ us hl => match us, hl with | [_, _, _], _ => rfl
  have F_want_net := PF.funD0 (st := s_want_net) hl_want_net hc_want_net hk_want_net
  have b_want_net := F_want_net.bindsN (ps := ["value"]) fun _ _ _ _ _ _ us hl => match us, hl with | [_], _ => rfl
  have F_Net_has_link := PF.funD0 (st := s_Net_has_link) hl_Net_has_link hc_Net_has_link hk_Net_has_link
  have b_Net_has_link := F_Net_has_link.bindsN (ps := ["self", "value"]) fun _ _ _ _ _ _ us hl => match us, hl with | [_, _], _ => rfl
  have F_Net_is_part_of := PF.funD0 (st := s_Net_is_part_of) hl_Net_is_part_of hc_Net_is_part_of hk_Net_is_part_of
  have b_Net_is_part_of := F_Net_is_part_of.bindsN (ps := ["self", "other"]) fun _ _ _ _ _ _ us hl => match us, hl with | [_, _], _ => rfl
  have F_want_link := PF.funD0 (st := s_want_link) hl_want_link hc_want_link hk_want_link
  have b_want_link := F_want_link.bindsN (ps := ["net", "value"]) fun _ _ _ _ _ _ us hl => match us, hl with | [_, _], _ => rfl
  have F_Net___sub__ := PF.funD0 (st := s_Net___sub__) hl_Net___sub__ hc_Net___sub__ hk_Net___sub__
  have b_Net___sub__ := F_Net___sub__.bindsN (ps := ["self", "other"]) fun _ _ _ _ _ _ us hl => match us, hl with | [_, _], _ => rfl
  have F_Net_drawn_together := PF.funD0 (st := s_Net_drawn_together) hl_Net_drawn_together hc_Net_drawn_together hk_Net_drawn_together
  have b_Net_drawn_together := F_Net_drawn_together.bindsN (ps := ["self", "link"]) fun _ _ _ _ _ _ us hl => match us, hl with | [_, _], _ => rfl
  have F__law_size_right := PF.funD0 (st := s__law_size_right) hl__law_size_right hc__law_size_right hk__law_size_right
  have b__law_size_right := F__law_size_right.bindsN (ps := ["_law_pot_here", "_law_some", "_law_size"]) fun _ _ _ _ _ _ us hl => match us, hl with | [_, _, _], _ => rfl
  have F_Net_of := PF.funD0 (st := s_Net_of) hl_Net_of hc_Net_of hk_Net_of
  have F__law_of_right := PF.funD0 (st := s__law_of_right) hl__law_of_right hc__law_of_right hk__law_of_right
  have b__law_of_right := F__law_of_right.bindsN (ps := ["_law_pot_here", "_law_some"]) fun _ _ _ _ _ _ us hl => match us, hl with | [_, _], _ => rfl
  have F__law_right := PF.funD0 (st := s__law_right) hl__law_right hc__law_right hk__law_right
  have b__law_right := F__law_right.bindsN (ps := ["_law_pot_here"]) fun _ _ _ _ _ _ us hl => match us, hl with | [_], _ => rfl
  have F__law_pot := PF.funD0 (st := s__law_pot) hl__law_pot hc__law_pot hk__law_pot
  have b__law_pot := F__law_pot.bindsN (ps := ["_law_script", "_law_k"]) fun _ _ _ _ _ _ us hl => match us, hl with | [_, _], _ => rfl
  have F_law := PF.funD0 (st := s_law) hl_law hc_law hk_law
  have b_law := F_law.bindsN (ps := ["_law_script"]) fun _ _ _ _ _ _ us hl => match us, hl with | [_], _ => rfl
  exact ⟨_, fun s v => F_law.bindsA (ps := ["_law_script"]) (fun _ _ _ _ _ _ us hl => match us, hl with | [_], _ => rfl) s [v] rfl, fun base _ _ => (ok_law (P := l.prog) (w := w) (base := base) ({
    C_Net := C_Net,
    c_Net := c_Net,
    it_Net := it_Net,
    f__law_draw := f__law_draw,
    fd__law_draw := _,
    F__law_draw := F__law_draw,
    b__law_draw := b__law_draw,
    g__law_draw := PySem.W.mg_of X G ha__law_draw,
    f__law_label := f__law_label,
    fd__law_label := _,
    F__law_label := F__law_label,
    b__law_label := b__law_label,
    g__law_label := PySem.W.mg_of X G ha__law_label,
    f__law_labels := f__law_labels,
    fd__law_labels := _,
    F__law_labels := F__law_labels,
    b__law_labels := b__law_labels,
    g__law_labels := PySem.W.mg_of X G ha__law_labels,
    f_is_list := f_is_list,
    fd_is_list := _,
    F_is_list := F_is_list,
    b_is_list := b_is_list,
    g_is_list := PySem.W.mg_of X G ha_is_list,
    f_is_name := f_is_name,
    fd_is_name := _,
    F_is_name := F_is_name,
    b_is_name := b_is_name,
    g_is_name := PySem.W.mg_of X G ha_is_name,
    f_want_names := f_want_names,
    fd_want_names := _,
    F_want_names := F_want_names,
    b_want_names := b_want_names,
    g_want_names := PySem.W.mg_of X G ha_want_names,
    f_is_link := f_is_link,
    fd_is_link := _,
    F_is_link := F_is_link,
    b_is_link := b_is_link,
    g_is_link := PySem.W.mg_of X G ha_is_link,
    f_in_sequence := f_in_sequence,
    fd_in_sequence := _,
    F_in_sequence := F_in_sequence,
    b_in_sequence := b_in_sequence,
    g_in_sequence := PySem.W.mg_of X G ha_in_sequence,
    f_pairs_of := f_pairs_of,
    fd_pairs_of := _,
    dv_pairs_of := [.non],
    d1_pairs_of := d1_pairs_of,
    vd1_pairs_of := [.non],
    bd1_pairs_of := bd1_pairs_of,
    pd1_pairs_of := pd1_pairs_of,
    F_pairs_of := F_pairs_of,
    b_pairs_of := b_pairs_of,
    g_pairs_of := PySem.W.mg_of X G ha_pairs_of,
    f_neighbours_by_node := f_neighbours_by_node,
    fd_neighbours_by_node := _,
    F_neighbours_by_node := F_neighbours_by_node,
    b_neighbours_by_node := b_neighbours_by_node,
    g_neighbours_by_node := PySem.W.mg_of X G ha_neighbours_by_node,
    f_Net___init__ := f_Net___init__,
    fd_Net___init__ := _,
    dv_Net___init__ := [.ref e0_Net___init__],
    F_Net___init__ := F_Net___init__,
    b_Net___init__ := b_Net___init__,
    f_Net_full := f_Net_full,
    fd_Net_full := _,
    F_Net_full := F_Net_full,
    f_Net_path := f_Net_path,
    fd_Net_path := _,
    F_Net_path := F_Net_path,
    f_Net_ring := f_Net_ring,
    fd_Net_ring := _,
    F_Net_ring := F_Net_ring,
    f__law_three := f__law_three,
    fd__law_three := _,
    F__law_three := F__law_three,
    b__law_three := b__law_three,
    g__law_three := PySem.W.mg_of X G ha__law_three,
    f__law_link := f__law_link,
    fd__law_link := _,
    F__law_link := F__law_link,
    b__law_link := b__law_link,
    g__law_link := PySem.W.mg_of X G ha__law_link,
    f_Net___len__ := f_Net___len__,
    fd_Net___len__ := _,
    F_Net___len__ := F_Net___len__,
    b_Net___len__ := b_Net___len__,
    f_Net_size := f_Net_size,
    fd_Net_size := _,
    F_Net_size := F_Net_size,
    b_Net_size := b_Net_size,
    f_Net_links := f_Net_links,
    fd_Net_links := _,
    F_Net_links := F_Net_links,
    b_Net_links := b_Net_links,
    f_Net_nodes := f_Net_nodes,
    fd_Net_nodes := _,
    F_Net_nodes := F_Net_nodes,
    b_Net_nodes := b_Net_nodes,
    f_Net___eq__ := f_Net___eq__,
    fd_Net___eq__ := _,
    F_Net___eq__ := F_Net___eq__,
    b_Net___eq__ := b_Net___eq__,
    f__law_is := f__law_is,
    fd__law_is := _,
    F__law_is := F__law_is,
    b__law_is := b__law_is,
    g__law_is := PySem.W.mg_of X G ha__law_is,
    f_want_net := f_want_net,
    fd_want_net := _,
    F_want_net := F_want_net,
    b_want_net := b_want_net,
    g_want_net := PySem.W.mg_of X G ha_want_net,
    f_Net_has_link := f_Net_has_link,
    fd_Net_has_link := _,
    F_Net_has_link := F_Net_has_link,
    b_Net_has_link := b_Net_has_link,
    f_Net_is_part_of := f_Net_is_part_of,
    fd_Net_is_part_of := _,
    F_Net_is_part_of := F_Net_is_part_of,
    b_Net_is_part_of := b_Net_is_part_of,
    f_want_link := f_want_link,
    fd_want_link := _,
    F_want_link := F_want_link,
    b_want_link := b_want_link,
    g_want_link := PySem.W.mg_of X G ha_want_link,
    f_Net___sub__ := f_Net___sub__,
    fd_Net___sub__ := _,
    F_Net___sub__ := F_Net___sub__,
    b_Net___sub__ := b_Net___sub__,
    f_Net_drawn_together := f_Net_drawn_together,
    fd_Net_drawn_together := _,
    F_Net_drawn_together := F_Net_drawn_together,
    b_Net_drawn_together := b_Net_drawn_together,
    f__law_size_right := f__law_size_right,
    fd__law_size_right := _,
    F__law_size_right := F__law_size_right,
    b__law_size_right := b__law_size_right,
    g__law_size_right := PySem.W.mg_of X G ha__law_size_right,
    f_Net_of := f_Net_of,
    fd_Net_of := _,
    F_Net_of := F_Net_of,
    f__law_of_right := f__law_of_right,
    fd__law_of_right := _,
    F__law_of_right := F__law_of_right,
    b__law_of_right := b__law_of_right,
    g__law_of_right := PySem.W.mg_of X G ha__law_of_right,
    f__law_right := f__law_right,
    fd__law_right := _,
    F__law_right := F__law_right,
    b__law_right := b__law_right,
    g__law_right := PySem.W.mg_of X G ha__law_right,
    f__law_pot := f__law_pot,
    fd__law_pot := _,
    F__law_pot := F__law_pot,
    b__law_pot := b__law_pot,
    g__law_pot := PySem.W.mg_of X G ha__law_pot,
    f_law := fa,
    fd_law := _,
    F_law := F_law,
    b_law := b_law,
    g_law := PySem.W.mg_of X G ha_law,
    z_abs := PySem.W.mg_none_of X G hz_abs,
    z_all := PySem.W.mg_none_of X G hz_all,
    z_dict := PySem.W.mg_none_of X G hz_dict,
    z_divmod := PySem.W.mg_none_of X G hz_divmod,
    z_enumerate := PySem.W.mg_none_of X G hz_enumerate,
    z_int := PySem.W.mg_none_of X G hz_int,
    z_isinstance := PySem.W.mg_none_of X G hz_isinstance,
    z_len := PySem.W.mg_none_of X G hz_len,
    z_list := PySem.W.mg_none_of X G hz_list,
    z_max := PySem.W.mg_none_of X G hz_max,
    z_min := PySem.W.mg_none_of X G hz_min,
    z_range := PySem.W.mg_none_of X G hz_range,
    z_repr := PySem.W.mg_none_of X G hz_repr,
    z_set := PySem.W.mg_none_of X G hz_set,
    z_sorted := PySem.W.mg_none_of X G hz_sorted,
    z_str := PySem.W.mg_none_of X G hz_str,
    z_tuple := PySem.W.mg_none_of X G hz_tuple,
    z_zip := PySem.W.mg_none_of X G hz_zip,
    gC_Net := PySem.W.mg_of X G hC_Net,
    pa_Net_full := pa_Net_full,
    cm_Net_full := ⟨ha_Net_full, ⟨_, hr_Net_full⟩, hi_Net_full⟩,
    pa_Net_path := pa_Net_path,
    cm_Net_path := ⟨ha_Net_path, ⟨_, hr_Net_path⟩, hi_Net_path⟩,
    pa_Net_ring := pa_Net_ring,
    cm_Net_ring := ⟨ha_Net_ring, ⟨_, hr_Net_ring⟩, hi_Net_ring⟩,
    t_LETTERS := t_LETTERS,
    c_LETTERS := PySem.W.mg_of X G hq_LETTERS,
    t_LONGEST_NAME := t_LONGEST_NAME,
    c_LONGEST_NAME := PySem.W.mg_of X G hq_LONGEST_NAME,
    mc_Net := (.type "type"),
    rd_Net := rd_Net,
    cv_Net_MOST_LINKS := PF.cv_int rd_Net hv_Net_MOST_LINKS,
    cv_Net_MOST_NODES := PF.cv_int rd_Net hv_Net_MOST_NODES,
    dn_Net___eq__ := ⟨ha_Net___eq__, hi_Net___eq__⟩,
    dn_Net___len__ := ⟨ha_Net___len__, hi_Net___len__⟩,
    dt_Net___sub__ := PF.dnT_sub ha_Net___sub__ hi_Net___sub__ hs_Net___sub__ hrr_Net___sub__ h1_Net___sub__ h2_Net___sub__ hsu_Net___sub__,
    fd_Net_own_links := ⟨c_Net, hf_Net_own_links⟩,
    fd_Net_own_near := ⟨c_Net, hf_Net_own_near⟩,
    fd_Net_own_nodes := ⟨c_Net, hf_Net_own_nodes⟩,
    m_Net_drawn_together := ⟨ha_Net_drawn_together, hi_Net_drawn_together, hk_Net_drawn_together⟩,
    m_Net_has_link := ⟨ha_Net_has_link, hi_Net_has_link, hk_Net_has_link⟩,
    m_Net_is_part_of := ⟨ha_Net_is_part_of, hi_Net_is_part_of, hk_Net_is_part_of⟩,
    m_Net_links := ⟨ha_Net_links, hi_Net_links, hk_Net_links⟩,
    m_Net_nodes := ⟨ha_Net_nodes, hi_Net_nodes, hk_Net_nodes⟩,
    mk_Net := ⟨hmk_Net, ha_Net___init__, hi_Net___init__, hkc_Net⟩,
    ne_Net := hne_Net,
    mo_Net := hhm_Net,
    pa_Net_size := pa_Net_size,
    p_Net_size := ⟨ha_Net_size, hg_Net_size, ht_Net_size, ⟨_, hr_Net_size⟩⟩,
    pa_Net_of := pa_Net_of,
    sm_Net_of := ⟨ha_Net_of, ⟨_, hr_Net_of⟩, hk_Net_of⟩,
    ans := (ansT C_Net),
    isi := isi_mk hans_list_list hans_tuple_list hans_tuple_tuple hans_str_str hans_Net_Net it_Net
    } : Tx K mg)).imp (PF.spLaw_of fun ns hn => law_v ⟨by simp [ansT], by simp [ansT], by simp [ansT], by simp [ansT], by simp [ansT]⟩ hn)⟩
theorem walk {l : PySem.W.OpenLaw} {q : Program} {loose : List Str} {XP : (Str → Option Value) → Heap → Prop} {YP : World → Heap → Prop} {d : DefRec} {K : Params → PySem.W.Frag} (hn : l.most = some 63) (hdf : d.params.defaults = [])
    (hY : ∀ (w : World) (h : Heap), YP w h → (K w.params).In h)
    (F : ∀ (w : World) (mg : Str → Option Value) (fa : Addr) (h : Heap), (K w.params).In h → h.Ns mainGlobals mg → mg d.name = some (.ref fa) →
      ∃ fd : FuncData, (∀ (s : Shared) (u : Value), BindsTo s fd ⟨[u], []⟩ [("_law_script", u)]) ∧ ∀ base : Heap, (K w.params).In base → base.Ns mainGlobals mg → PF.FnOk l.prog w (K w.params) mg base (L2.CX l.prog w) 10 fa fd ["_law_script"] (PF.spLaw (K w.params))) :
    PySem.W.WalkO q loose XP YP l.row.toRowW d [] (fun f vs => PySem.call f vs) :=
  PF.walk_of (n := 63) (k := 10) (x := "_law_script") (CX := fun w => L2.CX l.prog w) (sp := fun w => PF.spLaw (K w.params)) hn (by decide) hdf ⟨⟨rfl, by decide, by decide⟩, rfl⟩ hY F (fun _ _ a ns hl _ hS => ⟨a, ns, rfl, hS, hl, fun _ => rfl⟩) fun _ _ _ _ _ z => by
    obtain ⟨_, _, _, _, _, _, _, _, _, _, _, _, z⟩ := z
    exact z
end PF.k19

/-! text Z_k19 -/
set_option Elab.async false
open PySem PySem.W PyProof.Rows
set_option maxRecDepth 100000 in
set_option maxHeartbeats 0 in
theorem PySem.Challenge.cw_outsigns_k19_paths_rings_and_full_nets_holds : PySem.Challenge.rw_outsigns_k19_paths_rings_and_full_nets.Holds := by
  w_on; o_law; k_head; (case hw => w_witness2)
  k_fill
  refine PF.k19.walk (l := PySem.Challenge.rw_outsigns_k19_paths_rings_and_full_nets) rfl rfl (fun w h Y => PySem.W.kIn_of Y) ?F
  case F =>
    intro w mg fa h KX G hmg
    refine' PF.k19.all_mk KX G hmg ?hC_Net ?hpg_Net ?hhd_Net ?hpo_Net ?hsa_Net ?hmk_Net ?hkc_Net ?hha_Net ?hhn_Net ?htk_Net ?hhm_Net ?hrd_Net ?hga_Net ?ha__law_draw ?hl__law_draw ?hc__law_draw ?hk__law_draw ?ha__law_label ?hl__law_label ?hc__law_label ?hk__law_label ?ha__law_labels ?hl__law_labels ?hc__law_labels ?hk__law_labels ?ha_is_list ?hl_is_list ?hc_is_list ?hk_is_list ?ha_is_name ?hl_is_name ?hc_is_name ?hk_is_name ?ha_want_names ?hl_want_names ?hc_want_names ?hk_want_names ?ha_is_link ?hl_is_link ?hc_is_link ?hk_is_link ?ha_in_sequence ?hl_in_sequence ?hc_in_sequence ?hk_in_sequence ?ha_pairs_of ?hl_pairs_of ?hc_pairs_of ?hk_pairs_of ?hT_pairs_of ?ha_neighbours_by_node ?hl_neighbours_by_node ?hc_neighbours_by_node ?hk_neighbours_by_node ?ha_Net___init__ ?hi_Net___init__ ?hl_Net___init__ ?hc_Net___init__ ?hk_Net___init__ ?hT_Net___init__ ?ha_Net_full ?hr_Net_full ?hi_Net_full ?hl_Net_full ?hc_Net_full ?hk_Net_full ?ha_Net_path ?hr_Net_path ?hi_Net_path ?hl_Net_path ?hc_Net_path ?hk_Net_path ?ha_Net_ring ?hr_Net_ring ?hi_Net_ring ?hl_Net_ring ?hc_Net_ring ?hk_Net_ring ?ha__law_three ?hl__law_three ?hc__law_three ?hk__law_three ?ha__law_link ?hl__law_link ?hc__law_link ?hk__law_link ?ha_Net___len__ ?hi_Net___len__ ?hl_Net___len__ ?hc_Net___len__ ?hk_Net___len__ ?ha_Net_size ?hg_Net_size ?ht_Net_size ?hr_Net_size ?hl_Net_size ?hc_Net_size ?hk_Net_size ?ha_Net_links ?hi_Net_links ?hl_Net_links ?hc_Net_links ?hk_Net_links ?ha_Net_nodes ?hi_Net_nodes ?hl_Net_nodes ?hc_Net_nodes ?hk_Net_nodes ?ha_Net___eq__ ?hi_Net___eq__ ?hl_Net___eq__ ?hc_Net___eq__ ?hk_Net___eq__ ?ha__law_is ?hl__law_is ?hc__law_is ?hk__law_is ?ha_want_net ?hl_want_net ?hc_want_net ?hk_want_net ?ha_Net_has_link ?hi_Net_has_link ?hl_Net_has_link ?hc_Net_has_link ?hk_Net_has_link ?ha_Net_is_part_of ?hi_Net_is_part_of ?hl_Net_is_part_of ?hc_Net_is_part_of ?hk_Net_is_part_of ?ha_want_link ?hl_want_link ?hc_want_link ?hk_want_link ?ha_Net___sub__ ?hi_Net___sub__ ?hl_Net___sub__ ?hc_Net___sub__ ?hk_Net___sub__ ?ha_Net_drawn_together ?hi_Net_drawn_together ?hl_Net_drawn_together ?hc_Net_drawn_together ?hk_Net_drawn_together ?ha__law_size_right ?hl__law_size_right ?hc__law_size_right ?hk__law_size_right ?ha_Net_of ?hr_Net_of ?hl_Net_of ?hc_Net_of ?hk_Net_of ?ha__law_of_right ?hl__law_of_right ?hc__law_of_right ?hk__law_of_right ?ha__law_right ?hl__law_right ?hc__law_right ?hk__law_right ?ha__law_pot ?hl__law_pot ?hc__law_pot ?hk__law_pot ?ha_law ?hl_law ?hc_law ?hk_law ?hz_abs ?hz_all ?hz_dict ?hz_divmod ?hz_enumerate ?hz_int ?hz_isinstance ?hz_len ?hz_list ?hz_max ?hz_min ?hz_range ?hz_repr ?hz_set ?hz_sorted ?hz_str ?hz_tuple ?hz_zip ?hq_LETTERS ?hq_LONGEST_NAME ?hv_Net_MOST_LINKS ?hv_Net_MOST_NODES ?hs_Net___sub__ ?hrr_Net___sub__ ?h1_Net___sub__ ?h2_Net___sub__ ?hsu_Net___sub__ ?hf_Net_own_links ?hf_Net_own_near ?hf_Net_own_nodes ?hne_Net ?hans_list_list ?hans_tuple_list ?hans_tuple_tuple ?hans_str_str ?hans_Net_Net
    (case hC_Net => k_is); (case hpg_Net => k_is); (case hhd_Net => k_is); (case hpo_Net => k_is)
    (case hsa_Net => k_is); (case hmk_Net => k_is); (case hkc_Net => k_is); (case hha_Net => k_is)
    (case hhn_Net => k_is); (case htk_Net => k_is); (case hhm_Net => k_is); (case hrd_Net => k_is)
    (case hga_Net => k_is); (case ha__law_draw => k_is); (case hl__law_draw => k_is); (case hc__law_draw => k_is)
    (case hk__law_draw => k_is); (case ha__law_label => k_is); (case hl__law_label => k_is); (case hc__law_label => k_is)
    (case hk__law_label => k_is); (case ha__law_labels => k_is); (case hl__law_labels => k_is); (case hc__law_labels => k_is)
    (case hk__law_labels => k_is); (case ha_is_list => k_is); (case hl_is_list => k_is); (case hc_is_list => k_is)
    (case hk_is_list => k_is); (case ha_is_name => k_is); (case hl_is_name => k_is); (case hc_is_name => k_is)
    (case hk_is_name => k_is); (case ha_want_names => k_is); (case hl_want_names => k_is); (case hc_want_names => k_is)
    (case hk_want_names => k_is); (case ha_is_link => k_is); (case hl_is_link => k_is); (case hc_is_link => k_is)
    (case hk_is_link => k_is); (case ha_in_sequence => k_is); (case hl_in_sequence => k_is); (case hc_in_sequence => k_is)
    (case hk_in_sequence => k_is); (case ha_pairs_of => k_is); (case hl_pairs_of => k_is); (case hc_pairs_of => k_is)
    (case hk_pairs_of => k_is); (case hT_pairs_of => k_is); (case ha_neighbours_by_node => k_is); (case hl_neighbours_by_node => k_is)
    (case hc_neighbours_by_node => k_is); (case hk_neighbours_by_node => k_is); (case ha_Net___init__ => k_is); (case hi_Net___init__ => k_is)
    (case hl_Net___init__ => k_is); (case hc_Net___init__ => k_is); (case hk_Net___init__ => k_is); (case hT_Net___init__ => k_is)
    (case ha_Net_full => k_is); (case hr_Net_full => k_is); (case hi_Net_full => k_is); (case hl_Net_full => k_is)
    (case hc_Net_full => k_is); (case hk_Net_full => k_is); (case ha_Net_path => k_is); (case hr_Net_path => k_is)
    (case hi_Net_path => k_is); (case hl_Net_path => k_is); (case hc_Net_path => k_is); (case hk_Net_path => k_is)
    (case ha_Net_ring => k_is); (case hr_Net_ring => k_is); (case hi_Net_ring => k_is); (case hl_Net_ring => k_is)
    (case hc_Net_ring => k_is); (case hk_Net_ring => k_is); (case ha__law_three => k_is); (case hl__law_three => k_is)
    (case hc__law_three => k_is); (case hk__law_three => k_is); (case ha__law_link => k_is); (case hl__law_link => k_is)
    (case hc__law_link => k_is); (case hk__law_link => k_is); (case ha_Net___len__ => k_is); (case hi_Net___len__ => k_is)
    (case hl_Net___len__ => k_is); (case hc_Net___len__ => k_is); (case hk_Net___len__ => k_is); (case ha_Net_size => k_is)
    (case hg_Net_size => k_is); (case ht_Net_size => k_is); (case hr_Net_size => k_is); (case hl_Net_size => k_is)
    (case hc_Net_size => k_is); (case hk_Net_size => k_is); (case ha_Net_links => k_is); (case hi_Net_links => k_is)
    (case hl_Net_links => k_is); (case hc_Net_links => k_is); (case hk_Net_links => k_is); (case ha_Net_nodes => k_is)
    (case hi_Net_nodes => k_is); (case hl_Net_nodes => k_is); (case hc_Net_nodes => k_is); (case hk_Net_nodes => k_is)
    (case ha_Net___eq__ => k_is); (case hi_Net___eq__ => k_is); (case hl_Net___eq__ => k_is); (case hc_Net___eq__ => k_is)
    (case hk_Net___eq__ => k_is); (case ha__law_is => k_is); (case hl__law_is => k_is); (case hc__law_is => k_is)
    (case hk__law_is => k_is); (case ha_want_net => k_is); (case hl_want_net => k_is); (case hc_want_net => k_is)
    (case hk_want_net => k_is); (case ha_Net_has_link => k_is); (case hi_Net_has_link => k_is); (case hl_Net_has_link => k_is)
    (case hc_Net_has_link => k_is); (case hk_Net_has_link => k_is); (case ha_Net_is_part_of => k_is); (case hi_Net_is_part_of => k_is)
    (case hl_Net_is_part_of => k_is); (case hc_Net_is_part_of => k_is); (case hk_Net_is_part_of => k_is); (case ha_want_link => k_is)
    (case hl_want_link => k_is); (case hc_want_link => k_is); (case hk_want_link => k_is); (case ha_Net___sub__ => k_is)
    (case hi_Net___sub__ => k_is); (case hl_Net___sub__ => k_is); (case hc_Net___sub__ => k_is); (case hk_Net___sub__ => k_is)
    (case ha_Net_drawn_together => k_is); (case hi_Net_drawn_together => k_is); (case hl_Net_drawn_together => k_is); (case hc_Net_drawn_together => k_is)
    (case hk_Net_drawn_together => k_is); (case ha__law_size_right => k_is); (case hl__law_size_right => k_is); (case hc__law_size_right => k_is)
    (case hk__law_size_right => k_is); (case ha_Net_of => k_is); (case hr_Net_of => k_is); (case hl_Net_of => k_is)
    (case hc_Net_of => k_is); (case hk_Net_of => k_is); (case ha__law_of_right => k_is); (case hl__law_of_right => k_is)
    (case hc__law_of_right => k_is); (case hk__law_of_right => k_is); (case ha__law_right => k_is); (case hl__law_right => k_is)
    (case hc__law_right => k_is); (case hk__law_right => k_is); (case ha__law_pot => k_is); (case hl__law_pot => k_is)
    (case hc__law_pot => k_is); (case hk__law_pot => k_is); (case ha_law => k_is); (case hl_law => k_is)
    (case hc_law => k_is); (case hk_law => k_is); (case hz_abs => k_is); (case hz_all => k_is)
    (case hz_dict => k_is); (case hz_divmod => k_is); (case hz_enumerate => k_is); (case hz_int => k_is)
    (case hz_isinstance => k_is); (case hz_len => k_is); (case hz_list => k_is); (case hz_max => k_is)
    (case hz_min => k_is); (case hz_range => k_is); (case hz_repr => k_is); (case hz_set => k_is)
    (case hz_sorted => k_is); (case hz_str => k_is); (case hz_tuple => k_is); (case hz_zip => k_is)
    (case hq_LETTERS => k_is); (case hq_LONGEST_NAME => k_is); (case hv_Net_MOST_LINKS => k_is); (case hv_Net_MOST_NODES => k_is)
    (case hs_Net___sub__ => k_is); (case hrr_Net___sub__ => k_is); (case h1_Net___sub__ => k_is); (case h2_Net___sub__ => k_is)
    (case hsu_Net___sub__ => k_is); (case hf_Net_own_links => k_is); (case hf_Net_own_near => k_is); (case hf_Net_own_nodes => k_is)
    (case hne_Net => k_is); (case hans_list_list => exact L2.kit_ty rfl); (case hans_tuple_list => exact L2.kit_ty rfl); (case hans_tuple_tuple => exact L2.kit_ty rfl)
    (case hans_str_str => exact L2.kit_ty rfl); (case hans_Net_Net => exact if_pos (beq_self_eq_true _))
